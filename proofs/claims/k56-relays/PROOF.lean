import PyProof.Rows.All
import Wide.All
import OpenK.AllK
import Wide.FinOn
import HandS.ForMost
import HandS.ForExc
import HandS.Lambda
import HandS.EndTab
import HandS.TupAny
import HandS.TupMul
import HandS.Wide
import HandS.Style
import HandS.List
import KE.DataEq
import KE.DataCmp
import KE.DataMinMax
import KE.DataAny
import KE.DataFind
import KE.DataIsa
import HandS.IsInst
import HandS.Conv
import PyProof.SumAny
import HandS.Codes
import KE.SortData
import HandS.TryOnly
import HandS.ExcIs
import HandS.ExcBuiltin
import HandS.Zip
import KE.GoesMore
import KE.GoesNew
import HandS.CallSlots
import HandS.Defaults
import HandS.WordsExc
import HandS.HeadHook4
import HandS.HeadWalk
import HandS.SetFor
import HandS.Strs
import HandS.Deep
import HandS.Head2
import PySem.Challenge.RW_schoolyear_k56_whole_relays_or_prices
set_option Elab.async false
set_option linter.all false
set_option maxRecDepth 100000
section Vi0_
set_option Elab.async false
set_option linter.all false
set_option maxRecDepth 100000
/-! # Vi: values as plain data over the hand layer -/
namespace Vi
open PySem PySem.Spec PyProof.Rows L2

/-- an error: its class's name, its one field -/
structure Err where
  cls : Str
  fld : Option (Str × PyData)
/-- a value: data that never changes; a cell of the mirror's own heap; the script; the lambda that a def got; the error that a suite holds -/
inductive Val where
  | dat (d : PyData)
  | ref (n : Nat)
  | scr (ns : List Int)
  | thk
  | exc (e : Err)
/-- a cell: a list of data, a list of cells; none any more -/
inductive Cell where
  | lst (xs : List PyData)
  | refs (ns : List Nat)
  | dead
abbrev Hep := List Cell
abbrev Env := List (Option Val)
/-- what an expression comes to -/
inductive Out (α : Type) where
  | ok (a : α) (h : Hep)
  | er (e : Err) (h : Hep)
  | bad
/-- what a statement comes to -/
inductive SOut where
  | nx (env : Env) (h : Hep)
  | rt (v : Val) (h : Hep)
  | bk (env : Env) (h : Hep)
  | ct (env : Env) (h : Hep)
  | er (e : Err) (env : Env) (h : Hep)
  | bad
/-- where a cell stands; none: dead -/
abbrev Rho := List (Option Addr)
abbrev ME := Env → Hep → Out Val
abbrev MS := Env → Hep → SOut

def WrT (K : PySem.W.Frag) (a : Addr) (xs : List V) : Prop :=
  ∃ (o : Obj) (its : Array Value) (n : Nat), K.lookup a = some o ∧ o.cls = .type "tuple" ∧ o.dict = none ∧ o.data = .seq its n ∧ its.size ≤ sizeLine ∧ Vals xs its.toList
def RdL (H : Hp) (ρ : Rho) (a : Addr) (xs : List V) : Prop := H a = some (.lst xs) ∧ some a ∉ ρ
def RdT (K : PySem.W.Frag) (H : Hp) (ρ : Rho) (a : Addr) (xs : List V) : Prop := ((∃ o : Obj, H a = some (.frz o (.tup xs)) ∧ o.dict = none) ∧ some a ∉ ρ) ∨ WrT K a xs
theorem RdL.sq {K H ρ a xs} (h : RdL H ρ a xs) : SqL K H a xs := .inl (.inl h.1)
theorem RdT.sq {K H ρ a xs} (h : RdT K H ρ a xs) : SqT K H a xs := h.elim (fun ⟨⟨o, z, _⟩, _⟩ => .inl (.inr ⟨o, z⟩)) fun ⟨o, its, n, a1, a2, _, a3⟩ => .inr ⟨o, its, n, a1, a2, a3⟩
def keyD : Key → PyData
  | .inl i => .int i
  | .inr x => .str x
section
variable (K : PySem.W.Frag) (H : Hp) (ρ : Rho)
mutual
/-- the data d stands at v, and stays as it is -/
def Rep : PyData → V → Prop
  | .none, v => v = .non
  | .bool b, v => v = .bl b
  | .int i, v => v = .int i
  | .str x, v => v = .str x
  | .list ds, v => ∃ a xs, v = .ref a ∧ RdL H ρ a xs ∧ Reps ds xs
  | .tuple ds, v => ∃ a xs, v = .ref a ∧ RdT K H ρ a xs ∧ Reps ds xs
  | .dict kvs, v => ∃ a ks, v = .ref a ∧ H a = some (.dK ks) ∧ some a ∉ ρ ∧ RepKV kvs ks
def Reps : List PyData → List V → Prop
  | [], vs => vs = []
  | d :: ds, vs => ∃ v r, vs = v :: r ∧ Rep d v ∧ Reps ds r
def RepKV : List (PyData × PyData) → List (Key × V) → Prop
  | [], ks => ks = []
  | (k, d) :: r, ks => ∃ q w s, ks = (q, w) :: s ∧ k = keyD q ∧ Rep d w ∧ RepKV r s
end
end
/-- what was tracked and is no cell stays -/
def Keep (ρ : Rho) (H : Hp) (ρ' : Rho) (H' : Hp) : Prop := ∀ b o, H b = some o → some b ∉ ρ → (∀ ps, o ≠ .tbl ps) → H' b = some o ∧ some b ∉ ρ'
/-- the step from one state to a later one: cells may come, change, die; whatever else was tracked stays -/
structure Step (ρ : Rho) (H : Hp) (ρ' : Rho) (H' : Hp) : Prop where
  len : ρ.length ≤ ρ'.length
  live : ∀ (n : Nat) (a : Addr), n < ρ.length → ρ'[n]? = some (some a) → ρ[n]? = some (some a)
  keep : Keep ρ H ρ' H'
theorem Step.refl {ρ H} : Step ρ H ρ H := ⟨Nat.le_refl _, fun _ _ _ e => e, fun _ _ h n _ => ⟨h, n⟩⟩
theorem Step.trans {ρ H ρ1 H1 ρ2 H2} (a : Step ρ H ρ1 H1) (b : Step ρ1 H1 ρ2 H2) : Step ρ H ρ2 H2 :=
  ⟨Nat.le_trans a.len b.len, fun n x hn e => a.live n x hn (b.live n x (Nat.lt_of_lt_of_le hn a.len) e), fun c o h n t => b.keep c o (a.keep c o h n t).1 (a.keep c o h n t).2 t⟩
section
variable {K : PySem.W.Frag} {H H' : Hp} {ρ ρ' : Rho}
theorem Keep.rd {a : Addr} {u : HO} (s : Keep ρ H ρ' H') (hu : ∀ ps, u ≠ .tbl ps) (h : Rd H a u ∧ some a ∉ ρ) : Rd H' a u ∧ some a ∉ ρ' := by
  obtain ⟨h | ⟨o, h⟩, n⟩ := h
  · have q := s a u h n hu
    exact ⟨.inl q.1, q.2⟩
  · have q := s a _ h n (fun ps z => by cases z)
    exact ⟨.inr ⟨o, q.1⟩, q.2⟩
theorem RdL.keep {a xs} (s : Keep ρ H ρ' H') (h : RdL H ρ a xs) : RdL H' ρ' a xs := s a _ h.1 h.2 fun ps z => by cases z
theorem RdT.keep {a xs} (s : Keep ρ H ρ' H') (h : RdT K H ρ a xs) : RdT K H' ρ' a xs := h.elim (fun ⟨⟨o, z, d⟩, n⟩ => let q := s a _ z n fun ps z => by cases z
  .inl ⟨⟨o, q.1, d⟩, q.2⟩) .inr
mutual
theorem Rep.keep (s : Keep ρ H ρ' H') : ∀ (d : PyData) (v : V), Rep K H ρ d v → Rep K H' ρ' d v
  | .none, v, h => h
  | .bool b, v, h => h
  | .int i, v, h => h
  | .str x, v, h => h
  | .list ds, v, h => by
    obtain ⟨a, xs, e, r, q⟩ := h
    exact ⟨a, xs, e, r.keep s, Reps.keep s ds xs q⟩
  | .tuple ds, v, h => by
    obtain ⟨a, xs, e, r, q⟩ := h
    exact ⟨a, xs, e, r.keep s, Reps.keep s ds xs q⟩
  | .dict kvs, v, h => by
    obtain ⟨a, ks, e, h1, h2, q⟩ := h
    have z := s a _ h1 h2 (fun ps z => by cases z)
    exact ⟨a, ks, e, z.1, z.2, RepKV.keep s kvs ks q⟩
theorem Reps.keep (s : Keep ρ H ρ' H') : ∀ (ds : List PyData) (vs : List V), Reps K H ρ ds vs → Reps K H' ρ' ds vs
  | [], vs, h => h
  | d :: ds, vs, h => by
    obtain ⟨v, r, e, h1, h2⟩ := h
    exact ⟨v, r, e, Rep.keep s d v h1, Reps.keep s ds r h2⟩
theorem RepKV.keep (s : Keep ρ H ρ' H') : ∀ (kvs : List (PyData × PyData)) (ks : List (Key × V)), RepKV K H ρ kvs ks → RepKV K H' ρ' kvs ks
  | [], ks, h => h
  | (k, d) :: r, ks, h => by
    obtain ⟨q, w, s', e, h1, h2, h3⟩ := h
    exact ⟨q, w, s', e, h1, Rep.keep s d w h2, RepKV.keep s r s' h3⟩
end
theorem Rep.step (s : Step ρ H ρ' H') (d : PyData) (v : V) (h : Rep K H ρ d v) : Rep K H' ρ' d v := h.keep s.keep
theorem Reps.step (s : Step ρ H ρ' H') (ds : List PyData) (vs : List V) (h : Reps K H ρ ds vs) : Reps K H' ρ' ds vs := h.keep s.keep
theorem Reps.len : ∀ {ds : List PyData} {vs : List V}, Reps K H ρ ds vs → vs.length = ds.length
  | [], _, h => by rw [show _ = [] from h]; rfl
  | d :: ds, _, h => by
    obtain ⟨v, r, rfl, _, h2⟩ := h
    simp [Reps.len h2]
theorem Reps.get : ∀ {ds : List PyData} {vs : List V} (i : Nat) {d : PyData}, Reps K H ρ ds vs → ds[i]? = some d → ∃ v, vs[i]? = some v ∧ Rep K H ρ d v
  | [], _, i, _, _, e => by simp at e
  | d :: ds, _, 0, _, h, e => by
    obtain ⟨v, r, rfl, h1, _⟩ := h
    rw [List.getElem?_cons_zero] at e
    cases e
    exact ⟨v, rfl, h1⟩
  | d :: ds, _, i + 1, _, h, e => by
    obtain ⟨v, r, rfl, _, h2⟩ := h
    obtain ⟨w, e1, e2⟩ := Reps.get i h2 (by simpa using e)
    exact ⟨w, by simpa using e1, e2⟩
theorem Reps.getV : ∀ {ds : List PyData} {vs : List V} (i : Nat) {v : V}, Reps K H ρ ds vs → vs[i]? = some v → ∃ d, ds[i]? = some d ∧ Rep K H ρ d v := fun {ds vs} i {v} h e => by
  have l := h.len
  have hi : i < ds.length := by
    rw [← l]
    exact (List.getElem?_eq_some_iff.mp e).1
  obtain ⟨w, e1, e2⟩ := h.get i (List.getElem?_eq_getElem hi)
  rw [e] at e1
  cases e1
  exact ⟨_, List.getElem?_eq_getElem hi, e2⟩
theorem Reps.of_get {ds : List PyData} {vs : List V} (l : vs.length = ds.length) (h : ∀ (i : Nat) d v, ds[i]? = some d → vs[i]? = some v → Rep K H ρ d v) : Reps K H ρ ds vs := by
  induction ds generalizing vs with
  | nil =>
    cases vs with
    | nil => rfl
    | cons v r => simp at l
  | cons d ds ih =>
    cases vs with
    | nil => simp at l
    | cons v r => exact ⟨v, r, rfl, h 0 d v rfl rfl, ih (by simpa using l) fun i d' v' e1 e2 => h (i + 1) d' v' (by simpa using e1) (by simpa using e2)⟩
theorem Reps.append {ds es : List PyData} {vs ws : List V} (h : Reps K H ρ ds vs) (g : Reps K H ρ es ws) : Reps K H ρ (ds ++ es) (vs ++ ws) := by
  induction ds generalizing vs with
  | nil => rw [show vs = [] from h]; exact g
  | cons d ds ih =>
    obtain ⟨v, r, rfl, h1, h2⟩ := h
    exact ⟨v, r ++ ws, rfl, h1, ih h2⟩
theorem Reps.nil : Reps K H ρ [] [] := rfl
theorem Reps.one {d : PyData} {v : V} (h : Rep K H ρ d v) : Reps K H ρ [d] [v] := ⟨v, [], rfl, h, rfl⟩
theorem Reps.drop {ds : List PyData} {vs : List V} (h : Reps K H ρ ds vs) (n : Nat) : Reps K H ρ (ds.drop n) (vs.drop n) :=
  .of_get (by simp [h.len]) fun i d v e1 e2 => by
    rw [List.getElem?_drop] at e1 e2
    obtain ⟨w, q1, q2⟩ := h.get _ e1
    rw [e2] at q1
    cases q1
    exact q2
theorem Reps.take {ds : List PyData} {vs : List V} (h : Reps K H ρ ds vs) (n : Nat) : Reps K H ρ (ds.take n) (vs.take n) :=
  .of_get (by simp [h.len]) fun i d v e1 e2 => by
    have hi : i < n := by
      have q := (List.getElem?_eq_some_iff.mp e1).1
      rw [List.length_take] at q
      omega
    rw [List.getElem?_take_of_lt hi] at e1 e2
    obtain ⟨w, q1, q2⟩ := h.get _ e1
    rw [e2] at q1
    cases q1
    exact q2
theorem Reps.set {ds : List PyData} {vs : List V} {d : PyData} {v : V} (h : Reps K H ρ ds vs) (r : Rep K H ρ d v) (n : Nat) : Reps K H ρ (ds.set n d) (vs.set n v) :=
  .of_get (by simp [h.len]) fun i d' v' e1 e2 => by
    by_cases q : n = i
    · subst q
      have hi : n < ds.length := by simpa using (List.getElem?_eq_some_iff.mp e1).1
      rw [List.getElem?_set_self hi] at e1
      rw [List.getElem?_set_self (by rw [h.len]; exact hi)] at e2
      cases e1
      cases e2
      exact r
    · rw [List.getElem?_set_ne q] at e1 e2
      obtain ⟨w, q1, q2⟩ := h.get _ e1
      rw [e2] at q1
      cases q1
      exact q2
end
end Vi
end Vi0_

section Vi1_
set_option Elab.async false
set_option linter.all false
set_option maxRecDepth 100000
namespace Vi
open PySem PySem.Spec PyProof.Rows L2

/-- what is told besides: the tables of code objects; whatever stays true; the error that is handled, its object's address -/
structure Gh where
  T : List (Addr × Str)
  inv : Rho → Hp → Prop
  mono : ∀ {ρ H ρ' H'}, Step ρ H ρ' H' → inv ρ H → inv ρ' H'
  cur : Option (Addr × Err)
  th : Option Addr
def RefOk (ρ : Rho) (n : Nat) (v : V) : Prop := n < ρ.length ∧ ∀ a, ρ[n]? = some (some a) → v = .ref a
def RepV (K : PySem.W.Frag) (G : Gh) (H : Hp) (ρ : Rho) : Val → V → Prop
  | .dat d, v => Rep K H ρ d v
  | .ref n, v => RefOk ρ n v
  | .scr ns, v => ∃ a, v = .ref a ∧ (((∃ o, H a = some (.frz o (.lst (ns.map V.int)))) ∧ some a ∉ ρ) ∨ ∃ (o : Obj) (its : Array Value) (n : Nat), K.lookup a = some o ∧ o.cls = .type "list" ∧ o.dict = none ∧ o.data = .seq its n ∧ its.size ≤ sizeLine ∧ Vals (ns.map V.int) its.toList)
  | .thk, v => ∃ a, G.th = some a ∧ v = .ref a
  | .exc e, v => ∃ a, G.cur = some (a, e) ∧ v = .ref a
def CellOk (K : PySem.W.Frag) (H : Hp) (ρ : Rho) (a : Addr) : Cell → Prop
  | .lst xs => ∃ vs, H a = some (.lst vs) ∧ Reps K H ρ xs vs
  | .refs ns => ∃ vs, H a = some (.lst vs) ∧ vs.length = ns.length ∧ ∀ (i n : Nat) (v : V), ns[i]? = some n → vs[i]? = some v → RefOk ρ n v
  | .dead => False
structure SimH (K : PySem.W.Frag) (G : Gh) (H : Hp) (ρ : Rho) (h : Hep) : Prop where
  len : ρ.length = h.length
  one : ∀ (i j : Nat) (a : Addr), ρ[i]? = some (some a) → ρ[j]? = some (some a) → i = j
  cells : ∀ (n : Nat) (a : Addr), ρ[n]? = some (some a) → ∃ c, h[n]? = some c ∧ CellOk K H ρ a c
  dead : ∀ (n : Nat), ρ[n]? = some none → h[n]? = some .dead
  tabs : LamX.Tabs G.T H
  inv : G.inv ρ H
structure EnvR (K : PySem.W.Frag) (G : Gh) (H : Hp) (ρ : Rho) (env : Env) (σ : L2.St) : Prop where
  len : env.length = σ.length
  at_ : ∀ (i : Nat) (d : Val), env[i]? = some (some d) → ∃ v, σ[i]? = some (some v) ∧ RepV K G H ρ d v
section
variable {K : PySem.W.Frag} {G : Gh} {H H' : Hp} {ρ ρ' : Rho} {h : Hep}
theorem RefOk.step (s : Step ρ H ρ' H') {n : Nat} {v : V} (r : RefOk ρ n v) : RefOk ρ' n v := ⟨Nat.lt_of_lt_of_le r.1 s.len, fun a e => r.2 a (s.live n a r.1 e)⟩
theorem RepV.step (s : Step ρ H ρ' H') {d : Val} {v : V} (r : RepV K G H ρ d v) : RepV K G H' ρ' d v := by
  cases d with
  | dat d => exact Rep.step s d v r
  | ref n => exact RefOk.step s r
  | scr ns =>
    obtain ⟨a, e, q⟩ := r
    rcases q with ⟨⟨o, q⟩, n⟩ | q
    · have z := s.keep a _ q n fun ps z => by cases z
      exact ⟨a, e, .inl ⟨⟨o, z.1⟩, z.2⟩⟩
    · exact ⟨a, e, .inr q⟩
  | thk => exact r
  | exc e => exact r
theorem EnvR.step {env : Env} {σ : L2.St} (s : Step ρ H ρ' H') (r : EnvR K G H ρ env σ) : EnvR K G H' ρ' env σ :=
  ⟨r.len, fun i d e => by
    obtain ⟨v, e1, e2⟩ := r.at_ i d e
    exact ⟨v, e1, e2.step s⟩⟩
theorem EnvR.set {env : Env} {σ : L2.St} {d : Val} {v : V} (i : Nat) (r : EnvR K G H ρ env σ) (q : RepV K G H ρ d v) : EnvR K G H ρ (env.set i (some d)) (σ.set i (some v)) :=
  ⟨by simp [r.len], fun j d' e => by
    by_cases hj : i = j
    · subst hj
      by_cases hl : i < env.length
      · rw [List.getElem?_set_self hl] at e
        cases e
        exact ⟨v, by rw [List.getElem?_set_self (by rw [← r.len]; exact hl)], q⟩
      · rw [List.getElem?_eq_none (by simp; omega)] at e
        cases e
    · rw [List.getElem?_set_ne hj] at e
      obtain ⟨w, e1, e2⟩ := r.at_ j d' e
      exact ⟨w, by rw [List.getElem?_set_ne hj]; exact e1, e2⟩⟩
theorem CellOk.lst_at {a : Addr} {c : Cell} (x : CellOk K H ρ a c) : ∃ vs, H a = some (.lst vs) := by
  cases c with
  | lst xs => obtain ⟨vs, e, _⟩ := x; exact ⟨vs, e⟩
  | refs ns => obtain ⟨vs, e, _⟩ := x; exact ⟨vs, e⟩
  | dead => exact x.elim
theorem SimH.lst_at (s : SimH K G H ρ h) {a : Addr} (e : some a ∈ ρ) : ∃ vs, H a = some (.lst vs) := by
  obtain ⟨n, hn⟩ := List.mem_iff_getElem?.mp e
  obtain ⟨c, _, x⟩ := s.cells n a hn
  exact x.lst_at
theorem SimH.fresh (s : SimH K G H ρ h) {p : Addr} (e : H p = none) : some p ∉ ρ := fun z => by
  obtain ⟨vs, q⟩ := s.lst_at z
  rw [e] at q
  cases q
theorem SimH.notL (s : SimH K G H ρ h) {p : Addr} {o : HO} (e : H p = some o) (n : ∀ vs, o ≠ .lst vs) : some p ∉ ρ := fun z => by
  obtain ⟨vs, q⟩ := s.lst_at z
  rw [e] at q
  exact n vs (Option.some.inj q)
/-- a new object is laid -/
theorem SimH.stepNew (s : SimH K G H ρ h) {p : Addr} {o : HO} (e : H p = none) : Step ρ H ρ (upd H p o) :=
  ⟨Nat.le_refl _, fun _ _ _ z => z, fun b u hb n _ => ⟨by rw [upd_ne (ne_of_none hb e)]; exact hb, n⟩⟩
theorem CellOk.keep {a : Addr} {c : Cell} (st : Step ρ H ρ' H') (hb : ∀ vs, H a = some (.lst vs) → H' a = some (.lst vs)) (x : CellOk K H ρ a c) : CellOk K H' ρ' a c := by
  cases c with
  | lst xs =>
    obtain ⟨vs, e, r⟩ := x
    exact ⟨vs, hb vs e, Reps.step st xs vs r⟩
  | refs ns =>
    obtain ⟨vs, e, l, r⟩ := x
    exact ⟨vs, hb vs e, l, fun i n v e1 e2 => RefOk.step st (r i n v e1 e2)⟩
  | dead => exact x
theorem SimH.new (s : SimH K G H ρ h) {p : Addr} {o : HO} (e : H p = none) : SimH K G (upd H p o) ρ h := by
  have st : Step ρ H ρ (upd H p o) := s.stepNew e
  refine ⟨s.len, s.one, fun n a hn => ?_, s.dead, s.tabs.ext fun b u hb => by rw [upd_ne (ne_of_none hb e)]; exact hb, G.mono st s.inv⟩
  obtain ⟨c, h1, x⟩ := s.cells n a hn
  exact ⟨c, h1, x.keep st fun vs q => by rw [upd_ne (ne_of_none q e)]; exact q⟩
/-- a new cell -/
theorem SimH.stepCell (s : SimH K G H ρ h) {p : Addr} {o : HO} (e : H p = none) : Step ρ H (ρ ++ [some p]) (upd H p o) := by
  refine ⟨by simp, fun n a hn z => ?_, fun b u hb n _ => ⟨by rw [upd_ne (ne_of_none hb e)]; exact hb, fun z => ?_⟩⟩
  · rw [List.getElem?_append_left hn] at z
    exact z
  · rcases List.mem_append.mp z with z | z
    · exact n z
    · have q : b = p := by simpa using z
      rw [q, e] at hb
      cases hb
theorem SimH.cell (s : SimH K G H ρ h) {p : Addr} {vs : List V} {c : Cell} (e : H p = none) (x : CellOk K (upd H p (.lst vs)) (ρ ++ [some p]) p c) : SimH K G (upd H p (.lst vs)) (ρ ++ [some p]) (h ++ [c]) := by
  have st : Step ρ H (ρ ++ [some p]) (upd H p (.lst vs)) := s.stepCell e
  have np : some p ∉ ρ := s.fresh e
  have at_ : ∀ (n : Nat) (a : Addr), (ρ ++ [some p])[n]? = some (some a) → (n < ρ.length ∧ ρ[n]? = some (some a)) ∨ (n = ρ.length ∧ a = p) := fun n a z => by
    by_cases hn : n < ρ.length
    · rw [List.getElem?_append_left hn] at z
      exact .inl ⟨hn, z⟩
    · rw [List.getElem?_append_right (by omega)] at z
      have hz : n - ρ.length = 0 := by
        cases q : n - ρ.length with
        | zero => rfl
        | succ k => rw [q] at z; simp at z
      rw [hz] at z
      have q : p = a := by simpa using z
      exact .inr ⟨by omega, q.symm⟩
  refine ⟨by simp [s.len], fun i j a hi hj => ?_, fun n a hn => ?_, fun n hn => ?_, s.tabs.ext fun b u hb => by rw [upd_ne (ne_of_none hb e)]; exact hb, G.mono st s.inv⟩
  · rcases at_ i a hi with ⟨_, h1⟩ | ⟨h1, e1⟩
    · rcases at_ j a hj with ⟨_, h2⟩ | ⟨h2, e2⟩
      · exact s.one i j a h1 h2
      · rw [e2] at h1
        exact absurd (List.mem_of_getElem? h1) np
    · rcases at_ j a hj with ⟨_, h2⟩ | ⟨h2, e2⟩
      · rw [e1] at h2
        exact absurd (List.mem_of_getElem? h2) np
      · rw [h1, h2]
  · rcases at_ n a hn with ⟨hl, h1⟩ | ⟨h1, e1⟩
    · obtain ⟨c', h2, x'⟩ := s.cells n a h1
      refine ⟨c', by rw [List.getElem?_append_left (by rw [← s.len]; exact hl)]; exact h2, x'.keep st fun us q => by rw [upd_ne (ne_of_none q e)]; exact q⟩
    · refine ⟨c, by rw [h1, s.len]; simp, ?_⟩
      rw [e1]
      exact x
  · by_cases hl : n < ρ.length
    · rw [List.getElem?_append_left hl] at hn
      rw [List.getElem?_append_left (by rw [← s.len]; exact hl)]
      exact s.dead n hn
    · rw [List.getElem?_append_right (by omega)] at hn
      cases q : n - ρ.length with
      | zero => rw [q] at hn; simp at hn
      | succ k => rw [q] at hn; simp at hn
/-- a cell is written -/
theorem SimH.stepSet (s : SimH K G H ρ h) {n : Nat} {a : Addr} {o : HO} (hn : ρ[n]? = some (some a)) : Step ρ H ρ (upd H a o) := by
  refine ⟨Nat.le_refl _, fun _ _ _ z => z, fun b u hb nb _ => ⟨?_, nb⟩⟩
  have q : b ≠ a := fun z => nb (by rw [z]; exact List.mem_of_getElem? hn)
  rw [upd_ne q]
  exact hb
theorem SimH.set (s : SimH K G H ρ h) {n : Nat} {a : Addr} {vs : List V} {c : Cell} (hn : ρ[n]? = some (some a)) (x : CellOk K (upd H a (.lst vs)) ρ a c) : SimH K G (upd H a (.lst vs)) ρ (h.set n c) := by
  have st : Step ρ H ρ (upd H a (.lst vs)) := s.stepSet hn
  obtain ⟨us, ha⟩ := s.lst_at (List.mem_of_getElem? hn)
  refine ⟨by simp [s.len], s.one, fun m b hm => ?_, fun m hm => ?_, fun q hq => ?_, G.mono st s.inv⟩
  · obtain ⟨c', h1, x'⟩ := s.cells m b hm
    by_cases e : n = m
    · subst e
      rw [hn] at hm
      cases hm
      exact ⟨c, by rw [List.getElem?_set_self (by rw [← s.len]; exact (List.getElem?_eq_some_iff.mp hn).1)], x⟩
    · refine ⟨c', by rw [List.getElem?_set_ne e]; exact h1, x'.keep st fun ws q => ?_⟩
      have nb : b ≠ a := fun z => e (s.one n m a hn (by rw [← z]; exact hm))
      rw [upd_ne nb]
      exact q
  · by_cases e : n = m
    · subst e
      rw [hn] at hm
      cases hm
    · rw [List.getElem?_set_ne e]
      exact s.dead m hm
  · obtain ⟨ps, h1, h2, h3⟩ := s.tabs q hq
    have n1 : q.1 ≠ a := fun z => by
      rw [z, ha] at h1
      cases h1
    refine ⟨ps, by rw [upd_ne n1]; exact h1, h2, fun pos cv hc => ?_⟩
    obtain ⟨c0, e1, e2⟩ := h3 pos cv hc
    have n2 : c0 ≠ a := fun z => by
      rw [z, ha] at e2
      unfold LamX.CodeO at e2
      cases e2
    exact ⟨c0, e1, by rw [upd_ne n2]; exact e2⟩
/-- a cell dies -/
theorem step_kill {n : Nat} : Step ρ H (ρ.set n none) H := by
  refine ⟨by simp, fun m a hm e => ?_, fun b u hb nb _ => ⟨hb, fun z => ?_⟩⟩
  · by_cases q : n = m
    · subst q
      rw [List.getElem?_set_self hm] at e
      cases e
    · rw [List.getElem?_set_ne q] at e
      exact e
  · rcases List.mem_or_eq_of_mem_set z with z | z
    · exact nb z
    · cases z
theorem SimH.kill (s : SimH K G H ρ h) (n : Nat) : SimH K G H (ρ.set n none) (h.set n .dead) := by
  have st : Step ρ H (ρ.set n none) H := step_kill
  have at_ : ∀ (m : Nat) (a : Addr), (ρ.set n none)[m]? = some (some a) → n ≠ m ∧ ρ[m]? = some (some a) := fun m a e => by
    by_cases q : n = m
    · subst q
      by_cases hm : n < ρ.length
      · rw [List.getElem?_set_self hm] at e
        cases e
      · rw [List.getElem?_eq_none (by simp; omega)] at e
        cases e
    · rw [List.getElem?_set_ne q] at e
      exact ⟨q, e⟩
  refine ⟨by simp [s.len], fun i j a hi hj => s.one i j a (at_ i a hi).2 (at_ j a hj).2, fun m a hm => ?_, fun m hm => ?_, s.tabs, G.mono st s.inv⟩
  · obtain ⟨ne, hm⟩ := at_ m a hm
    obtain ⟨c, h1, x⟩ := s.cells m a hm
    exact ⟨c, by rw [List.getElem?_set_ne ne]; exact h1, x.keep st fun _ q => q⟩
  by_cases e : n = m
  · subst e
    have hl : n < ρ.length := by simpa using (List.getElem?_eq_some_iff.mp hm).1
    rw [List.getElem?_set_self (by rw [← s.len]; exact hl)]
  · rw [List.getElem?_set_ne e] at hm
    rw [List.getElem?_set_ne e]
    exact s.dead m hm
/-- a killed cell's list is data from now on -/
theorem SimH.freeze (s : SimH K G H ρ h) {n : Nat} {a : Addr} {xs : List PyData} (hn : ρ[n]? = some (some a)) (hc : h[n]? = some (.lst xs)) : Rep K H (ρ.set n none) (.list xs) (.ref a) := by
  obtain ⟨c, h1, x⟩ := s.cells n a hn
  rw [hc] at h1
  cases h1
  obtain ⟨vs, e, r⟩ := x
  refine ⟨a, vs, rfl, ⟨e, fun z => ?_⟩, Reps.step step_kill xs vs r⟩
  obtain ⟨m, hm⟩ := List.mem_iff_getElem?.mp z
  by_cases q : n = m
  · subst q
    rw [List.getElem?_set_self (List.getElem?_eq_some_iff.mp hn).1] at hm
    cases hm
  · rw [List.getElem?_set_ne q] at hm
    exact q (s.one n m a hn hm)
/-- the tables grow -/
theorem SimH.ext {H1 : Hp} (s : SimH K G H ρ h) (e : LamX.ExtN H H1) (t : LamX.Tabs G.T H1) : SimH K G H1 ρ h ∧ Step ρ H ρ H1 := by
  have st : Step ρ H ρ H1 := ⟨Nat.le_refl _, fun _ _ _ z => z, fun b u hb n hu => ⟨e b u hb hu, n⟩⟩
  refine ⟨⟨s.len, s.one, fun n a hn => ?_, s.dead, t, G.mono st s.inv⟩, st⟩
  obtain ⟨c, h1, x⟩ := s.cells n a hn
  exact ⟨c, h1, x.keep st fun vs q => e a _ q fun ps z => by cases z⟩

/-! ### leaving a def: its own cells go -/
def Val.closed (n : Nat) : Val → Prop
  | .ref m => m < n
  | _ => True
def Cell.closed (n : Nat) : Cell → Prop
  | .refs ns => ∀ m ∈ ns, m < n
  | _ => True
/-- the cells ahead of n are as they were, or name none behind -/
def Shut (h0 h : Hep) : Prop := h.take h0.length = h0 ∨ ∀ c ∈ h.take h0.length, c.closed h0.length
open Classical in
noncomputable def trim (h0 h : Hep) : Hep := if h0.length ≤ h.length ∧ Shut h0 h then h.take h0.length else h
open Classical in
noncomputable def leave (h0 : Hep) (v : Val) (h : Hep) : Out Val := if v.closed h0.length then .ok v (trim h0 h) else .ok v h
theorem SimH.closedAt (s : SimH K G H ρ h) : ∀ (n : Nat) (a : Addr) (c : Cell), ρ[n]? = some (some a) → h[n]? = some c → c.closed h.length := fun n a c e1 e2 => by
  obtain ⟨c', h1, x⟩ := s.cells n a e1
  rw [e2] at h1
  cases h1
  cases c with
  | lst xs => trivial
  | dead => trivial
  | refs ns =>
    obtain ⟨vs, _, l, r⟩ := x
    intro m hm
    obtain ⟨i, hi⟩ := List.mem_iff_getElem?.mp hm
    have li : i < vs.length := by
      rw [l]
      exact (List.getElem?_eq_some_iff.mp hi).1
    rw [← s.len]
    exact (r i m _ hi (List.getElem?_eq_getElem li)).1
theorem step_take {n : Nat} {ρ0 : Rho} {H0 : Hp} (st : Step ρ0 H0 ρ H) (hn : n = ρ0.length) : Step ρ0 H0 (ρ.take n) H := by
  subst hn
  refine ⟨?_, fun m a hm e => ?_, fun b u hb nb hu => ?_⟩
  · rw [List.length_take]
    have := st.len
    omega
  · rw [List.getElem?_take_of_lt hm] at e
    exact st.live m a hm e
  · have q := st.keep b u hb nb hu
    exact ⟨q.1, fun z => q.2 (List.mem_of_mem_take z)⟩
theorem keep_cut (n : Nat) : Keep ρ H (ρ.take n) H := fun b o h nb _ => ⟨h, fun z => nb (List.mem_of_mem_take z)⟩
theorem SimH.cut {h : Hep} (s : SimH K G H ρ h) (n : Nat) (hn : n ≤ h.length) (sh : ∀ c ∈ h.take n, c.closed n) (mi : G.inv (ρ.take n) H) : SimH K G H (ρ.take n) (h.take n) := by
  have lt : ∀ {i : Nat} {a : Option Addr}, (ρ.take n)[i]? = some a → i < n := fun {i a} e => by
    have q := (List.getElem?_eq_some_iff.mp e).1
    rw [List.length_take] at q
    omega
  refine ⟨by simp [s.len], fun i j a hi hj => ?_, fun i a hi => ?_, fun i hi => ?_, s.tabs, mi⟩
  · rw [List.getElem?_take_of_lt (lt hi)] at hi
    rw [List.getElem?_take_of_lt (lt hj)] at hj
    exact s.one i j a hi hj
  · have li := lt hi
    rw [List.getElem?_take_of_lt li] at hi
    obtain ⟨c, h1, x⟩ := s.cells i a hi
    have h1' : (h.take n)[i]? = some c := by
      rw [List.getElem?_take_of_lt li]
      exact h1
    refine ⟨c, h1', ?_⟩
    have cl := sh c (List.mem_of_getElem? h1')
    cases c with
    | lst xs =>
      obtain ⟨vs, e, r⟩ := x
      exact ⟨vs, e, r.keep (keep_cut n)⟩
    | refs ns =>
      obtain ⟨vs, e, l, r⟩ := x
      refine ⟨vs, e, l, fun i m v e1 e2 => ?_⟩
      have q := r i m v e1 e2
      have hm : m < n := cl m (List.mem_of_getElem? e1)
      refine ⟨by rw [List.length_take, s.len]; omega, fun b hb => ?_⟩
      rw [List.getElem?_take_of_lt hm] at hb
      exact q.2 b hb
    | dead => exact x
  · have li := lt hi
    rw [List.getElem?_take_of_lt li] at hi
    rw [List.getElem?_take_of_lt li]
    exact s.dead i hi
theorem SimH.closed (s : SimH K G H ρ h) : ∀ c ∈ h, c.closed h.length := fun c hc => by
  obtain ⟨n, hn⟩ := List.mem_iff_getElem?.mp hc
  have hl : n < ρ.length := by
    rw [s.len]
    exact (List.getElem?_eq_some_iff.mp hn).1
  cases q : ρ[n]? with
  | none => rw [List.getElem?_eq_getElem hl] at q; cases q
  | some o =>
    cases o with
    | some a => exact s.closedAt n a c q hn
    | none =>
      rw [s.dead n q] at hn
      cases hn
      trivial
theorem Shut.closed {h0 h : Hep} {ρ0 : Rho} {H0 : Hp} (s0 : SimH K G H0 ρ0 h0) (sh : Shut h0 h) : ∀ c ∈ h.take h0.length, c.closed h0.length := by
  rcases sh with e | e
  · rw [e]
    exact s0.closed
  · exact e
/-- a def is left: its cells go, if nothing names them -/
theorem trim_ok {h0 h : Hep} {ρ0 : Rho} {H0 : Hp} (s0 : SimH K G H0 ρ0 h0) (st : Step ρ0 H0 ρ H) (s : SimH K G H ρ h) :
    ∃ ρ', Step ρ0 H0 ρ' H ∧ SimH K G H ρ' (trim h0 h) ∧ Keep ρ H ρ' H ∧ ∀ n v, n < h0.length → RefOk ρ n v → RefOk ρ' n v := by
  unfold trim
  split
  · rename_i c
    have st' := step_take st s0.len.symm
    refine ⟨ρ.take h0.length, st', s.cut _ c.1 (c.2.closed s0) (G.mono st' s0.inv), keep_cut _, fun n v hn r => ⟨?_, fun a e => ?_⟩⟩
    · rw [List.length_take, s.len]
      omega
    · rw [List.getElem?_take_of_lt hn] at e
      exact r.2 a e
  · exact ⟨ρ, st, s, fun _ _ e n _ => ⟨e, n⟩, fun _ _ _ r => r⟩
end
end Vi
end Vi1_

section Vi2_
set_option Elab.async false
set_option linter.all false
set_option maxRecDepth 100000
namespace Vi
open PySem PySem.Spec PyProof.Rows L2

@[simp] def Out.bind {α β : Type} (o : Out α) (f : α → Hep → Out β) : Out β := match o with
  | .ok a h => f a h
  | .er e h => .er e h
  | .bad => .bad
/-- an error as it flies: its class, its own dict -/
def ErrAt (K : PySem.W.Frag) (mg : Str → Option Value) (H : Hp) (ρ : Rho) (e : Err) (cls : Value) (dx : Option Addr) : Prop :=
  ∃ C, mg e.cls = some (.ref C) ∧ cls = .ref C ∧ match e.fld with
    | none => dx = none
    | some (f, d) => ∃ p v, dx = some p ∧ H p = some (.xd [(f, v)]) ∧ some p ∉ ρ ∧ Rep K H ρ d v
theorem ErrAt.keep {K mg H ρ H' ρ' e cls dx} (s : Keep ρ H ρ' H') (x : ErrAt K mg H ρ e cls dx) : ErrAt K mg H' ρ' e cls dx := by
  obtain ⟨C, h1, h2, h3⟩ := x
  refine ⟨C, h1, h2, ?_⟩
  cases q : e.fld with
  | none => rw [q] at h3; exact h3
  | some fd =>
    obtain ⟨f, d⟩ := fd
    rw [q] at h3
    obtain ⟨p, v, e1, e2, e3, e4⟩ := h3
    have z := s p _ e2 e3 (fun ps z => by cases z)
    exact ⟨p, v, e1, z.1, z.2, e4.keep s⟩
/-- what is known of the world around -/
structure Wd where
  K : PySem.W.Frag
  mg : Str → Option Value
  G : Gh
section
variable (D : Wd) (W : WX)
/-- o's end gives Q -/
def Wp {α β : Type} (R : Hp → Rho → α → β → Prop) (σ : L2.St) (ρ : Rho) (H : Hp) (o : Out α) (Q : β → Hp → Prop) : Prop := match o with
  | .bad => False
  | .ok a h' => ∀ ρ' H' b, Step ρ H ρ' H' → SimH D.K D.G H' ρ' h' → R H' ρ' a b → Q b H'
  | .er e h' => ∀ ρ' H' cls dx, Step ρ H ρ' H' → SimH D.K D.G H' ρ' h' → ErrAt D.K D.mg H' ρ' e cls dx → W cls dx σ H'
/-- the relations of results -/
abbrev RV : Hp → Rho → Val → V → Prop := fun H ρ => RepV D.K D.G H ρ
def RVs (H : Hp) (ρ : Rho) : List Val → List V → Prop := Paired (RepV D.K D.G H ρ)
def RB (_ : Hp) (_ : Rho) (a b : Bool) : Prop := a = b
/-- a state of a def's body -/
structure Sim (σ : L2.St) (H : Hp) (ρ : Rho) (env : Env) (h : Hep) : Prop where
  hp : SimH D.K D.G H ρ h
  env : EnvR D.K D.G H ρ env σ
def rX {α β : Type} (R : Hp → Rho → α → β → Prop) (m : Env → Hep → Out α) : L2.St → Hp → (β → Hp → Prop) → Prop := fun σ H Q =>
  ∃ ρ env h, Sim D σ H ρ env h ∧ Wp D W R σ ρ H (m env h) Q
abbrev rE (m : ME) : TE := rX D W (RV D) m
abbrev rT (m : Env → Hep → Out Bool) : TT := rX D W RB m
abbrev rA (m : Env → Hep → Out (List Val)) : TA := rX D W (RVs D) m
end
section
variable {D : Wd} {W : WX} {α β γ δ : Type} {R : Hp → Rho → α → β → Prop} {R' : Hp → Rho → γ → δ → Prop} {σ : L2.St} {ρ ρ' : Rho} {H H' : Hp}
theorem Wp.step (s : Step ρ H ρ' H') {o : Out α} {Q : β → Hp → Prop} (w : Wp D W R σ ρ H o Q) : Wp D W R σ ρ' H' o Q := by
  cases o with
  | bad => exact w
  | ok a h => exact fun ρ2 H2 b s2 => w ρ2 H2 b (s.trans s2)
  | er e h => exact fun ρ2 H2 c dx s2 => w ρ2 H2 c dx (s.trans s2)
theorem Wp.imp {o : Out α} {Q Q' : β → Hp → Prop} (w : Wp D W R σ ρ H o Q) (hq : ∀ b H', Q b H' → Q' b H') : Wp D W R σ ρ H o Q' := by
  cases o with
  | bad => exact w
  | ok a h => exact fun ρ2 H2 b s2 x y => hq b H2 (w ρ2 H2 b s2 x y)
  | er e h => exact w
theorem Wp.bind {o : Out α} {f : α → Hep → Out γ} {Q : δ → Hp → Prop} (w : Wp D W R' σ ρ H (o.bind f) Q) :
    Wp D W R σ ρ H o (fun b H1 => ∃ ρ1 h1 a, Step ρ H ρ1 H1 ∧ SimH D.K D.G H1 ρ1 h1 ∧ R H1 ρ1 a b ∧ Wp D W R' σ ρ1 H1 (f a h1) Q) := by
  cases o with
  | bad => exact w
  | ok a h => exact fun ρ2 H2 b s2 x y => ⟨ρ2, h, a, s2, x, y, Wp.step s2 w⟩
  | er e h => exact w
theorem Sim.step {env : Env} {h h' : Hep} (S : Sim D σ H ρ env h) (s : Step ρ H ρ' H') (q : SimH D.K D.G H' ρ' h') : Sim D σ H' ρ' env h' := ⟨q, S.env.step s⟩
/-- from one part to the next, in the same frame -/
theorem rX.seq {m : Env → Hep → Out α} {f : α → Env → Hep → Out γ} {Q : δ → Hp → Prop} {k : β → Hp → Prop}
    (r : rX D W R' (fun env h => (m env h).bind fun a h1 => f a env h1) σ H Q)
    (hk : ∀ a b ρ1 H1 env h1, Sim D σ H1 ρ1 env h1 → R H1 ρ1 a b → Wp D W R' σ ρ1 H1 (f a env h1) Q → k b H1) : rX D W R m σ H k := by
  obtain ⟨ρ, env, h, S, w⟩ := r
  refine ⟨ρ, env, h, S, (Wp.bind (R := R) w).imp fun b H1 z => ?_⟩
  obtain ⟨ρ1, h1, a, s1, q1, r1, w1⟩ := z
  exact hk a b ρ1 H1 env h1 (S.step s1 q1) r1 w1
theorem rX.imp {m : Env → Hep → Out α} {Q k : β → Hp → Prop} (r : rX D W R m σ H Q) (hk : ∀ b H1, Q b H1 → k b H1) : rX D W R m σ H k := by
  obtain ⟨ρ, env, h, S, w⟩ := r
  exact ⟨ρ, env, h, S, w.imp hk⟩
end
theorem PE.to {X : Cx} {e : Expr} {t t' : TE} (h : PE X e t) (hw : ∀ σ H Q, t' σ H Q → t σ H Q) : PE X e t' := ⟨fun pins s σ H Q I q => h.run pins s σ H Q I (hw σ H Q q)⟩
theorem PT.to {X : Cx} {e : Expr} {t t' : TT} (h : PT X e t) (hw : ∀ σ H Q, t' σ H Q → t σ H Q) : PT X e t' := ⟨fun pins s σ H Q I q => h.run pins s σ H Q I (hw σ H Q q)⟩
theorem PW.to {X : Cx} {e : Expr} {t t' : TT} (h : PW X e t) (hw : ∀ σ H Q, t' σ H Q → t σ H Q) : PW X e t' := ⟨fun wh pins s σ H Q I q => h.run wh pins s σ H Q I (hw σ H Q q)⟩
theorem PA.to {X : Cx} {e : List Expr} {t t' : TA} (h : PA X e t) (hw : ∀ σ H Q, t' σ H Q → t σ H Q) : PA X e t' := ⟨fun p pins s σ H Q I q => h.run p pins s σ H Q I (hw σ H Q q)⟩
theorem PS.to {X : Cx} {e : Stmt} {t t' : TS} (h : PS X e t) (hw : ∀ D σ H, t' D σ H → t D σ H) : PS X e t' := ⟨fun pins s σ H D I q => h.run pins s σ H D I (hw D σ H q)⟩
theorem PSs.to {X : Cx} {e : List Stmt} {t t' : TS} (h : PSs X e t) (hw : ∀ D σ H, t' D σ H → t D σ H) : PSs X e t' := ⟨fun pins s σ H D I q => h.run pins s σ H D I (hw D σ H q)⟩

/-! ### the judgements -/
abbrev wd (G : Gh) (X : Cx) : Wd := ⟨X.K, X.mg, G⟩
def JE (G : Gh) (W : WX) (X : Cx) (e : Expr) (m : ME) : Prop := PE X e (rE (wd G X) W m)
def JT (G : Gh) (W : WX) (X : Cx) (e : Expr) (m : Env → Hep → Out Bool) : Prop := PT X e (rT (wd G X) W m)
def JW (G : Gh) (W : WX) (X : Cx) (e : Expr) (m : Env → Hep → Out Bool) : Prop := PW X e (rT (wd G X) W m)
def JA (G : Gh) (W : WX) (X : Cx) (es : List Expr) (m : Env → Hep → Out (List Val)) : Prop := PA X es (rA (wd G X) W m)

/-! ### names and constants -/
def mVar (i : Nat) : ME := fun env h => match env[i]? with
  | some (some v) => .ok v h
  | _ => .bad
def mC (d : PyData) : ME := fun _ h => .ok (.dat d) h
section
variable {G : Gh} {W : WX} {X : Cx} {a b c : Expr} {pos : Pos}
theorem Wp.ok {D : Wd} {W : WX} {α β : Type} {R : Hp → Rho → α → β → Prop} {σ : L2.St} {ρ : Rho} {H : Hp} {v : α} {b : β} {h : Hep} {Q : β → Hp → Prop} (w : Wp D W R σ ρ H (.ok v h) Q) (q : SimH D.K D.G H ρ h) (r : R H ρ v b) : Q b H := w ρ H b .refl q r
theorem e_var {i : Nat} {x : Str} (hN : X.N[i]? = some x) (hv : Vis X.env.scope x) (hd : (x == ("__debug__" : Str)) = false := by decide) (hcd : (x == ("__classdict__" : Str)) = false := by decide) : JE G W X (.Name x pos) (mVar i) := by
  refine PE.to (pe_var hN hv hd hcd) fun σ H Q r => ?_
  obtain ⟨ρ, env, h, S, w⟩ := r
  unfold mVar at w
  split at w
  · rename_i v e
    obtain ⟨u, e1, e2⟩ := S.env.at_ i v e
    exact ⟨u, e1, w.ok S.hp e2⟩
  · exact w.elim
theorem e_const {e : Expr} {d : PyData} {v : V} (h : PE X e (tC v)) (r : ∀ K H ρ, Rep K H ρ d v) : JE G W X e (mC d) := by
  refine PE.to h fun σ H Q q => ?_
  obtain ⟨ρ, env, h, S, w⟩ := q
  exact w.ok S.hp (r _ _ _)
theorem e_int {i j} : JE G W X (.Constant (.int i) j pos) (mC (.int i)) := e_const pe_int fun _ _ _ => rfl
theorem e_bool {i j} : JE G W X (.Constant (.bool i) j pos) (mC (.bool i)) := e_const pe_bl fun _ _ _ => rfl
theorem e_none {j} : JE G W X (.Constant .none j pos) (mC .none) := e_const pe_non fun _ _ _ => rfl
theorem e_str {x j} : JE G W X (.Constant (.str x) j pos) (mC (.str x)) := e_const pe_str fun _ _ _ => rfl
/-- a module's constant -/
def GloD (K : PySem.W.Frag) (mg : Str → Option Value) (x : Str) (d : PyData) : Prop := ∃ u v, mg x = some u ∧ RelV v u ∧ ∀ H ρ, Rep K H ρ d v
theorem e_glo {x : Str} {d : PyData} (g : GloD X.K X.mg x d) (hg : Gl X x) (hd : (x == ("__debug__" : Str)) = false := by decide) : JE G W X (.Name x pos) (mC d) := by
  obtain ⟨u, v, h1, h2, h3⟩ := g
  refine PE.to (pe_glob hg h1 h2 hd) fun σ H Q q => ?_
  obtain ⟨ρ, env, h, S, w⟩ := q
  exact w.ok S.hp (h3 _ _)

/-! ### operators -/
abbrev F2 := Val → Val → Hep → Out Val
def mBin (f : F2) (ma mb : ME) : ME := fun env h => (ma env h).bind fun x h1 => (mb env h1).bind fun y h2 => f x y h2
/-- an operator's reading by its mirror f -/
def rOp (D : Wd) (W : WX) (f : F2) : R2 := fun x y H Q => ∃ σ ρ h a b, SimH D.K D.G H ρ h ∧ RepV D.K D.G H ρ a x ∧ RepV D.K D.G H ρ b y ∧ Wp D W (RV D) σ ρ H (f a b h) Q
abbrev NoErr : WX := fun _ _ _ _ => True
/-- the mirror f tells the operator o -/
def OpD (G : Gh) (X : Cx) (o : Value → Value → Sem Value) (f : F2) : Prop := OpR X o (rOp (wd G X) (fun _ _ _ _ => False) f)
/-- f raises nothing -/
def Quiet2 (f : F2) : Prop := ∀ a b h e h', f a b h ≠ .er e h'
theorem bin_of {ma mb : ME} {f : F2} {σ : L2.St} {H : Hp} {Q : VK} (q : Quiet2 f) (r : rE (wd G X) W (mBin f ma mb) σ H Q) :
    tOp (rOp (wd G X) (fun _ _ _ _ => False) f) (rE (wd G X) W ma) (rE (wd G X) W mb) σ H Q := by
  refine rX.seq (R := RV (wd G X)) (f := fun x env h1 => (mb env h1).bind fun y h2 => f x y h2) r fun x v ρ1 H1 env h1 S1 r1 w1 => ?_
  refine ⟨ρ1, env, h1, S1, (Wp.bind (R := RV (wd G X)) w1).imp fun u H2 z => ?_⟩
  obtain ⟨ρ2, h2, y, s2, q2, r2, w2⟩ := z
  refine ⟨σ, ρ2, h2, x, y, q2, RepV.step s2 r1, r2, ?_⟩
  cases e : f x y h2 with
  | bad => rw [e] at w2; exact w2
  | ok a h => rw [e] at w2; exact w2
  | er e' h => exact (q _ _ _ _ _ e).elim
theorem e_op {op : Operator} {f : F2} {ma mb : ME} (ho : OpD G X (binaryOp op) f) (q : Quiet2 f) (ha : JE G W X a ma) (hb : JE G W X b mb) : JE G W X (.BinOp a op b pos) (mBin f ma mb) :=
  PE.to (pe_op ho ha hb) fun σ H Q r => bin_of q r
theorem e_cmp {op : CmpOp} {f : F2} {ma mb : ME} (ho : OpD G X (compareOp op) f) (q : Quiet2 f) (ha : JE G W X a ma) (hb : JE G W X b mb) (hm : behindInMarks op b = false) : JE G W X (.Compare a [op] [b] pos) (mBin f ma mb) :=
  PE.to (pe_cmpR ho ha hb hm) fun σ H Q r => bin_of q r
/-- the value as a test: it is a bool -/
def kTest (v : Val) (h1 : Hep) : Out Bool := match v with
  | .dat (.bool b) => .ok b h1
  | _ => .bad
def mTest (m : ME) : Env → Hep → Out Bool := fun env h => (m env h).bind kTest
theorem test_of {m : ME} {σ : L2.St} {H : Hp} {Q : Bool → Hp → Prop} (r : rT (wd G X) W (mTest m) σ H Q) : rE (wd G X) W m σ H (fun x H1 => ∃ k, x = .bl k ∧ Q k H1) := by
  refine rX.seq (R := RV (wd G X)) (f := fun v _ h1 => kTest v h1) r fun x v ρ1 H1 env h1 S1 r1 w1 => ?_
  unfold kTest at w1
  split at w1
  · exact ⟨_, r1, w1.ok S1.hp rfl⟩
  · exact w1.elim
theorem t_cmp {op : CmpOp} {f : F2} {ma mb : ME} (ho : OpD G X (compareOp op) f) (q : Quiet2 f) (ha : JE G W X a ma) (hb : JE G W X b mb) (hm : behindInMarks op b = false) : JT G W X (.Compare a [op] [b] pos) (mTest (mBin f ma mb)) :=
  PT.to (pt_cmpR ho ha hb hm) fun σ H Q r => bin_of q (test_of r)
theorem t_val {e : Expr} {m : ME} (h : JE G W X e m) (he : ∀ whole, isTrue e X.env whole = (do let v ← whole; standAt e.pos; holding [v] (truthy v)) := by intro _; rfl) : JT G W X e (mTest m) :=
  PT.to (pt_val h he) fun σ H Q r => test_of r
/-! ### and, or, not, if -/
def mtAnd (a b : Env → Hep → Out Bool) : Env → Hep → Out Bool := fun env h => (a env h).bind fun c h1 => if c = true then b env h1 else .ok false h1
def mtOr (a b : Env → Hep → Out Bool) : Env → Hep → Out Bool := fun env h => (a env h).bind fun c h1 => if c = true then .ok true h1 else b env h1
def mtNot (a : Env → Hep → Out Bool) : Env → Hep → Out Bool := fun env h => (a env h).bind fun c h1 => .ok (!c) h1
variable {ta tb : Env → Hep → Out Bool} {rest : List Expr}
theorem w_and1 (ha : JT G W X a ta) : JW G W X (.BoolOp .And [a] pos) ta := pw_and1 ha
theorem w_or1 (ha : JT G W X a ta) : JW G W X (.BoolOp .Or [a] pos) ta := pw_or1 ha
theorem w_and (ha : JT G W X a ta) (hb : JW G W X (.BoolOp .And (b :: rest) pos) tb) : JW G W X (.BoolOp .And (a :: b :: rest) pos) (mtAnd ta tb) := by
  refine PW.to (pw_and ha hb) fun σ H Q r => ?_
  refine rX.seq (R := RB) (f := fun c env h1 => if c = true then tb env h1 else .ok false h1) r fun c d ρ1 H1 env h1 S1 r1 w1 => ?_
  cases r1
  cases c with
  | true => exact ⟨ρ1, env, h1, S1, w1⟩
  | false => exact w1.ok S1.hp rfl
theorem w_or (ha : JT G W X a ta) (hb : JW G W X (.BoolOp .Or (b :: rest) pos) tb) : JW G W X (.BoolOp .Or (a :: b :: rest) pos) (mtOr ta tb) := by
  refine PW.to (pw_or ha hb) fun σ H Q r => ?_
  refine rX.seq (R := RB) (f := fun c env h1 => if c = true then .ok true h1 else tb env h1) r fun c d ρ1 H1 env h1 S1 r1 w1 => ?_
  cases r1
  cases c with
  | true => exact w1.ok S1.hp rfl
  | false => exact ⟨ρ1, env, h1, S1, w1⟩
theorem t_w {e : Expr} (h : JW G W X e ta) : JT G W X e ta := PW.pt h
theorem t_not (ha : JT G W X a ta) : JT G W X (.UnaryOp .Not a pos) (mtNot ta) := by
  refine PT.to (pt_not ha) fun σ H Q r => ?_
  refine rX.seq (R := RB) (f := fun c env h1 => .ok (!c) h1) r fun c d ρ1 H1 env h1 S1 r1 w1 => ?_
  cases r1
  exact w1.ok S1.hp rfl
/-- as values: bools all but the last -/
def kAnd (b : ME) (v : Val) (env : Env) (h1 : Hep) : Out Val := match v with
  | .dat (.bool c) => if c = true then b env h1 else .ok (.dat (.bool false)) h1
  | _ => .bad
def kOr (b : ME) (v : Val) (env : Env) (h1 : Hep) : Out Val := match v with
  | .dat (.bool c) => if c = true then .ok (.dat (.bool true)) h1 else b env h1
  | _ => .bad
def kNot (v : Val) (h1 : Hep) : Out Val := match v with
  | .dat (.bool c) => .ok (.dat (.bool (!c))) h1
  | _ => .bad
def mAnd (a b : ME) : ME := fun env h => (a env h).bind fun v h1 => kAnd b v env h1
def mOr (a b : ME) : ME := fun env h => (a env h).bind fun v h1 => kOr b v env h1
def mNot (a : ME) : ME := fun env h => (a env h).bind kNot
variable {ma mb : ME}
theorem e_one {op} (h : JE G W X a ma) : JE G W X (.BoolOp op [a] pos) ma := pe_one h
theorem e_and (ha : JE G W X a ma) (hb : JE G W X (.BoolOp .And (b :: rest) pos) mb) : JE G W X (.BoolOp .And (a :: b :: rest) pos) (mAnd ma mb) := by
  refine PE.to (pe_and ha hb) fun σ H Q r => ?_
  refine rX.seq (R := RV (wd G X)) (f := kAnd mb) r fun x v ρ1 H1 env h1 S1 r1 w1 => ?_
  unfold kAnd at w1
  split at w1
  · rename_i c
    refine ⟨c, r1, ?_⟩
    cases c with
    | true => exact ⟨ρ1, env, h1, S1, w1⟩
    | false => exact w1.ok S1.hp rfl
  · exact w1.elim
theorem e_or (ha : JE G W X a ma) (hb : JE G W X (.BoolOp .Or (b :: rest) pos) mb) : JE G W X (.BoolOp .Or (a :: b :: rest) pos) (mOr ma mb) := by
  refine PE.to (pe_or ha hb) fun σ H Q r => ?_
  refine rX.seq (R := RV (wd G X)) (f := kOr mb) r fun x v ρ1 H1 env h1 S1 r1 w1 => ?_
  unfold kOr at w1
  split at w1
  · rename_i c
    refine ⟨c, r1, ?_⟩
    cases c with
    | true => exact w1.ok S1.hp rfl
    | false => exact ⟨ρ1, env, h1, S1, w1⟩
  · exact w1.elim
theorem e_not (ha : JE G W X a ma) : JE G W X (.UnaryOp .Not a pos) (mNot ma) := by
  refine PE.to (pe_not ha) fun σ H Q r => ?_
  refine rX.seq (R := RV (wd G X)) (f := fun v _ h1 => kNot v h1) r fun x v ρ1 H1 env h1 S1 r1 w1 => ?_
  unfold kNot at w1
  split at w1
  · exact ⟨_, r1, w1.ok S1.hp rfl⟩
  · exact w1.elim
def mIf (t : Env → Hep → Out Bool) (a b : ME) : ME := fun env h => (t env h).bind fun c h1 => if c = true then a env h1 else b env h1
theorem e_if (hc : JT G W X c ta) (ha : JE G W X a ma) (hb : JE G W X b mb) : JE G W X (.IfExp c a b pos) (mIf ta ma mb) := by
  refine PE.to (pe_ifExp hc ha hb) fun σ H Q r => ?_
  refine rX.seq (R := RB) (f := fun c env h1 => if c = true then ma env h1 else mb env h1) r fun c d ρ1 H1 env h1 S1 r1 w1 => ?_
  cases r1
  cases c with
  | true => exact ⟨ρ1, env, h1, S1, w1⟩
  | false => exact ⟨ρ1, env, h1, S1, w1⟩
/-- a < b < c -/
def kChain (g : F2) (mc : ME) (y v : Val) (env : Env) (h3 : Hep) : Out Val := match v with
  | .dat (.bool k) => if k = true then (mc env h3).bind fun z h4 => g y z h4 else .ok (.dat (.bool false)) h3
  | _ => .bad
def mChain (f g : F2) (ma mb mc : ME) : ME := fun env h => (ma env h).bind fun x h1 => (mb env h1).bind fun y h2 => (f x y h2).bind fun v h3 => kChain g mc y v env h3
end
end Vi
end Vi2_

section ViT_
set_option Elab.async false
set_option linter.all false
set_option maxRecDepth 100000
namespace Vi
open PySem PySem.Spec PyProof.Rows L2
theorem tuple_mulS (l : Addr) (items : Array Value) (n : Nat) (dd : Option Addr) (sl : Array (Option Value)) (x : Int) (u : Tok) (c0 : (decide (x < -(2 ^ 63)) || decide (x ≥ 2 ^ 63)) = false) (c1 : (items.isEmpty || x == 1) = true) :
    Meets (Builtin.«tuple.__mul__» ⟨[.ref l, .int x u], []⟩) (fun _ R s => s.heap.get? l = some { cls := .type "tuple", dict := dd, data := .seq items n, slots := sl } ∧ R (.ok (.ret (Value.ref l))) s) :=
  .of_wp fun prog w A R s h => by
    obtain ⟨hp, g, d, tk, os⟩ := s
    obtain ⟨hl, h⟩ := h
    have f1 := AutoSeq1.idx_int
    have ty : Shared.TypeIs (⟨hp, g, d, tk, os⟩ : Shared) (.ref l) "tuple" := ⟨_, hl, rfl⟩
    wp_walk using wpAny_loadPart' hl
    refine wpAny_ite_false (decide_eq_false (by rw [c0]; exact Bool.false_ne_true)) ?_
    wp_walk using wpAny_loadPart' hl
    exact ⟨_, rfl, h⟩

/-! ### tuples whose object is known to have no dict -/
section
variable {X : Cx} {pins : List (Addr × Obj)} {σ : L2.St} {H : Hp} {s : Shared}
theorem Inv.laidT {p : Addr} {h' : Heap} {t' : Nat} {xs : List V} {its : List Value} {n : Nat} (I : Inv X pins σ H s) (k : ∀ b o, s.heap.get? b = some o → h'.get? b = some o) (hp : s.heap.objs.size ≤ p)
    (e : h'.get? p = some { cls := .type "tuple", data := .seq its.toArray n }) (r : Vals xs its) (hz : xs.length ≤ sizeLine) :
    Inv X pins σ (upd H p (.frz { cls := .type "tuple", data := .seq its.toArray n } (.tup xs))) { s with heap := h', toks := t' } :=
  I.laid (t' := t') (o := .frz { cls := .type "tuple", data := .seq its.toArray n } (.tup xs)) k hp ⟨e, hz, its, r, ⟨_, e, rfl, _, rfl⟩⟩
end
/-- what comes of a new tuple -/
def NewT (H : Hp) (xs : List V) (Q : VK) : Prop := ∀ (p : Addr) (o : Obj), H p = none → o.dict = none → Q (.ref p) (upd H p (.frz o (.tup xs)))
section
variable {X : Cx} {es : List Expr} {pos : Pos} {t : TA}
theorem pe_tupZ {x1} (h : PA X es t) : PE X (.Tuple es x1 pos) (fun σ H Q => t σ H fun xs H1 => xs.length ≤ sizeLine ∧ NewT H1 xs Q) := by
  refine ⟨fun pins s σ H Q I hq => ?_⟩
  refine wpAny_Tuple_spliced (thn (h.run pos pins s σ H _ I hq) fun us s1 ⟨xs, H1, I1, r, z, q⟩ => ⟨by rw [← r.length]; exact z, ?_⟩)
  have hf : H1 s1.heap.objs.size = none := I1.hok.fresh (Nat.le_refl _)
  exact ⟨.ref s1.heap.objs.size, _, Inv.laidT (t' := s1.toks) I1 (fun b u e => Heap.get?_push_of_some _ e) (Nat.le_refl _) (Heap.get?_push_size _ rfl) r z, rfl, q _ _ hf rfl⟩
theorem call_tupleZ : CallR X (.type "tuple") (fun xs H Q => ∃ p ys, xs = [.ref p] ∧ ((SqL X.K H p ys ∧ NewT H ys Q) ∨ (SqT X.K H p ys ∧ Q (.ref p) H))) := by
  intro pins s σ H xs us Q I r h
  obtain ⟨p, ys, rfl, h⟩ := h
  obtain ⟨u, rfl, rx⟩ := vals1 r
  cases rx
  rcases h with ⟨hq, q⟩ | ⟨hq, q⟩
  · obtain ⟨its, r', pl, hz⟩ := I.list hq
    have hlen := r'.length
    refine call_tuple_list pl.isList (fun h' kp => ?_) (by simp only [List.size_toArray] <;> omega)
    have I1 : Inv X pins σ H { s with heap := h' } := I.kept (t' := s.toks) kp
    have I2 := Inv.laidT (s := { s with heap := h' }) (p := h'.objs.size) (h' := h'.push { cls := .type "tuple", data := .seq its.toArray }) (t' := s.toks) (n := 0) I1 (fun b o e => Heap.get?_push_of_some _ e) (Nat.le_refl _) (Heap.get?_push_size _ rfl) r' hz
    exact ⟨.ref h'.objs.size, _, I2, rfl, q _ _ (I1.hok.fresh (Nat.le_refl _)) rfl⟩
  · obtain ⟨its, r', pl, hz⟩ := I.tuple hq
    exact call_tuple_same pl ⟨.ref p, H, I, rfl, q⟩
def rCatZ (K : PySem.W.Frag) : R2 := fun x y H Q => ∃ a b xs ys, x = .ref a ∧ y = .ref b ∧ SqT K H a xs ∧ SqT K H b ys ∧ xs.length + ys.length ≤ sizeLine ∧
  (xs = [] → Q (.ref b) H) ∧ (xs ≠ [] → ys = [] → Q (.ref a) H) ∧ (xs ≠ [] → ys ≠ [] → NewT H (xs ++ ys) Q)
theorem op_catZ : OpR X (binaryOp .Add) (rCatZ X.K) := by
  intro pins s σ H x y v u Q I rx ry h
  obtain ⟨a, b, xs, ys, rfl, rfl, ha, hb, hz, q0, q1, q2⟩ := h
  by_cases hx : xs = []
  · subst hx
    exact op_catA pins s σ H _ _ v u Q I rx ry ⟨a, b, [], ys, rfl, rfl, ha, hb, hz, q0, fun z => (z rfl).elim, fun z => (z rfl).elim⟩
  · cases rx
    cases ry
    obtain ⟨its, r1, p1, _⟩ := I.tuple ha
    obtain ⟨its2, r2, p2, _⟩ := I.tuple hb
    refine HT.cat_tup p1 p2 (fun z => hx (r1.nil_iff.mp z)) (fun z => ⟨.ref a, H, I, rfl, q1 hx (r2.nil_iff.mp z)⟩) (fun z => ?_) (by rw [← r1.length, ← r2.length]; exact hz)
    exact ⟨.ref s.heap.objs.size, _, Inv.laidT (t' := s.toks) I (fun b ob q => Heap.get?_push_of_some _ q) (Nat.le_refl _) (Heap.get?_push_size _ rfl) (r1.append r2) (by rw [List.length_append]; exact hz), rfl, q2 hx (fun w => z (r2.nil_iff.mpr w)) _ _ (I.hok.fresh (Nat.le_refl _)) rfl⟩
def rSlZ (K : PySem.W.Frag) : V → Option Int → Option Int → Hp → VK → Prop := fun x lo hi H Q => ∃ a xs, x = .ref a ∧ SqT K H a xs ∧
  (HT.sIx xs.length 0 lo = 0 ∧ HT.sIx xs.length xs.length hi = xs.length → Q (.ref a) H) ∧ (¬ (HT.sIx xs.length 0 lo = 0 ∧ HT.sIx xs.length xs.length hi = xs.length) → NewT H (cutV xs lo hi) Q)
theorem sl_tupZ : SlR X (rSlZ X.K) := by
  intro pins s σ H x v vl vu lo hi sl Q I rx hs pl pu h
  obtain ⟨a, xs, rfl, hx, q1, q2⟩ := h
  by_cases hw : HT.sIx xs.length 0 lo = 0 ∧ HT.sIx xs.length xs.length hi = xs.length
  · exact sl_tupA pins s σ H _ v vl vu lo hi sl Q I rx hs pl pu ⟨a, xs, rfl, hx, q1, fun z => (z hw).elim⟩
  · cases rx
    obtain ⟨its, r, ht, hz⟩ := I.tuple hx
    have hlen : its.toArray.size = xs.length := by rw [List.size_toArray]; exact r.length.symm
    refine ⟨"tuple", _, PyProof.Rows.slot_tuple_getitem.lookup, ht.typeIs, ?_⟩
    refine HT.getItem_tuple_cut ht hs pl pu (by rw [hlen]; exact hw) ?_ (by rw [hlen]; exact hz)
    rw [hlen]
    exact ⟨.ref s.heap.objs.size, _, Inv.laidT (t' := s.toks) I (fun b ob q => Heap.get?_push_of_some _ q) (Nat.le_refl _) (Heap.get?_push_size _ rfl) ((r.drop (HT.sIx xs.length 0 lo)).take (HT.sIx xs.length xs.length hi - HT.sIx xs.length 0 lo)) (Nat.le_trans (cutV_length xs lo hi) hz), rfl, q2 hw _ _ (I.hok.fresh (Nat.le_refl _)) rfl⟩
def rRepS (K : PySem.W.Frag) : R2 := fun x y H Q => ∃ l xs, x = .ref l ∧ y = .int 1 ∧ SqT K H l xs ∧ Q (.ref l) H
theorem op_repS : OpR X (binaryOp .Mult) (rRepS X.K) := by
  intro pins s σ H x y v u Q I rx ry h
  obtain ⟨l, xs, rfl, rfl, hT, q⟩ := h
  cases rx
  obtain ⟨t, rfl⟩ := ry
  obtain ⟨its, r, ⟨⟨cls, dd, data, sl⟩, ho, hc, n, hd⟩, hs⟩ := I.tuple hT
  simp only at hc hd
  subst hc hd
  refine wpAny_binaryOp_repeat_ref (T := "tuple") (U := "int") (by decide) ⟨_, ho, rfl⟩ (fun s' => typeIs_int s' 1 t) noFill_tuple_mul F.fills_int_mul F.slot_int_rmul repeat_tuple F.slot_int_index.lookup
    (call_meets F.slot_int_rmul (typeIs_int s 1 t) F.entry_int_rmul (F.args_int_rmul_2 _ _) (int_rmul_tuple 1 t l its.toArray n dd sl)
      ⟨ho, rfl, ⟨_, ho, rfl⟩, call_meets F.slot_tuple_mul ⟨_, ho, rfl⟩ F.entry_tuple_mul (F.args_tuple_mul_2 _ _) (tuple_mulS l its.toArray n dd sl 1 t (by decide) (by simp)) ⟨ho, ?_⟩⟩)
  exact ⟨.ref l, H, I, rfl, q⟩
def rRepZ (K : PySem.W.Frag) : R2 := fun x y H Q => ∃ l k xs, x = .ref l ∧ y = .int k ∧ SqT K H l xs ∧ xs ≠ [] ∧ 2 ≤ k ∧ k ≤ 1000 ∧ xs.length ≤ 1000 ∧ NewT H (List.replicate k.toNat xs).flatten Q
theorem op_repZ : OpR X (binaryOp .Mult) (rRepZ X.K) := by
  intro pins s σ H x y v u Q I rx ry h
  obtain ⟨l, k, xs, rfl, rfl, hT, hne, h1, h2, hz, q⟩ := h
  cases rx
  obtain ⟨t, rfl⟩ := ry
  obtain ⟨its, r, ⟨⟨cls, dd, data, sl⟩, ho, hc, n, hd⟩, hs⟩ := I.tuple hT
  simp only at hc hd
  subst hc hd
  have hle : its.length = xs.length := r.length.symm
  have hn : its ≠ [] := fun e => hne (by
    rw [e] at hle
    exact List.eq_nil_of_length_eq_zero hle.symm)
  have hi : its.toArray.isEmpty = false := by
    cases its with
    | nil => exact absurd rfl hn
    | cons a b => rfl
  have hsz0 : its.toArray.size = xs.length := by rw [List.size_toArray, hle]
  have hm : ((its.toArray.size : Nat) : Int) * k ≤ 1000000 := by
    rw [hsz0]
    have a1 : ((xs.length : Nat) : Int) * k ≤ 1000 * k := Int.mul_le_mul_of_nonneg_right (by omega) (by omega)
    omega
  have flen : (List.replicate k.toNat its).flatten.length ≤ sizeLine := by
    rw [PyProof.Rows.lm_len_rep_flat, hle, sizeLine_eq]
    have a1 : k.toNat * xs.length ≤ 1000 * 1000 := Nat.mul_le_mul (by omega) hz
    omega
  have c0 : (decide (k < -(2 ^ 63)) || decide (k ≥ 2 ^ 63)) = false := by
    rw [decide_eq_false (by omega), decide_eq_false (by omega)] <;> rfl
  have c1 : (its.toArray.isEmpty || k == 1) = false := by
    rw [hi, Bool.false_or]
    exact beq_eq_false_iff_ne.mpr (by omega)
  have c2 : (decide (k ≤ 0) || its.toArray.isEmpty) = false := by
    rw [hi, Bool.or_false]
    exact decide_eq_false (by omega)
  have c4 : Builtin.Tuple.tupleTooMany (((its.toArray.size : Nat) : Int) * k) = false := by
    unfold Builtin.Tuple.tupleTooMany
    rw [sizeLine_eq]
    exact decide_eq_false (by omega)
  refine wpAny_binaryOp_repeat_ref (T := "tuple") (U := "int") (by decide) ⟨_, ho, rfl⟩ (fun s' => typeIs_int s' k t) noFill_tuple_mul F.fills_int_mul F.slot_int_rmul repeat_tuple F.slot_int_index.lookup
    (call_meets F.slot_int_rmul (typeIs_int s k t) F.entry_int_rmul (F.args_int_rmul_2 _ _) (int_rmul_tuple k t l its.toArray n dd sl)
      ⟨ho, rfl, ⟨_, ho, rfl⟩, call_meets F.slot_tuple_mul ⟨_, ho, rfl⟩ F.entry_tuple_mul (F.args_tuple_mul_2 _ _) (tuple_mulW l its.toArray n dd sl k t c0 c1 c2 (by omega) c4 (by rw [size_rep, List.size_toArray]; exact flen)) ⟨ho, ?_⟩⟩)
  rw [size_rep]
  exact ⟨.ref s.heap.objs.size, _, Inv.laidT (t' := s.toks) I (fun b ob q => Heap.get?_push_of_some _ q) (Nat.le_refl _) (Heap.get?_push_size _ rfl) (r.rep k.toNat) (by rw [PyProof.Rows.lm_len_rep_flat, sizeLine_eq]; have a1 : k.toNat * xs.length ≤ 1000 * 1000 := Nat.mul_le_mul (by omega) hz; omega), rfl, q _ _ (I.hok.fresh (Nat.le_refl _)) rfl⟩
end
end Vi
end ViT_

section Vi3_
set_option Elab.async false
set_option linter.all false
set_option maxRecDepth 100000
namespace Vi
open PySem PySem.Spec PyProof.Rows L2

/-- a value as data, at the heap h; the script too -/
def toDat (h : Hep) : Val → Option PyData
  | .dat d => some d
  | .ref n => match h[n]? with
    | some (.lst xs) => some (.list xs)
    | _ => none
  | .scr ns => some (.list (ns.map .int))
  | _ => none
section
variable {K : PySem.W.Frag} {G : Gh} {H : Hp} {ρ : Rho} {h : Hep}
theorem SimH.alive (S : SimH K G H ρ h) {n : Nat} {c : Cell} (e : h[n]? = some c) (nd : c ≠ .dead) : ∃ a, ρ[n]? = some (some a) ∧ CellOk K H ρ a c := by
  have hl : n < ρ.length := by
    rw [S.len]
    exact (List.getElem?_eq_some_iff.mp e).1
  cases q : ρ[n]? with
  | none => rw [List.getElem?_eq_getElem hl] at q; cases q
  | some o =>
    cases o with
    | none =>
      rw [S.dead n q] at e
      exact (nd (Option.some.inj e).symm).elim
    | some a =>
      obtain ⟨c', e1, x⟩ := S.cells n a q
      rw [e] at e1
      cases e1
      exact ⟨a, rfl, x⟩
/-- a cell as it is written to -/
theorem SimH.cell_at (S : SimH K G H ρ h) {n : Nat} {x : V} {xs : List PyData} (r : RefOk ρ n x) (e : h[n]? = some (.lst xs)) : ∃ a vs, x = .ref a ∧ ρ[n]? = some (some a) ∧ H a = some (.lst vs) ∧ Reps K H ρ xs vs := by
  obtain ⟨a, e1, vs, e2, e3⟩ := S.alive e (by simp)
  exact ⟨a, vs, r.2 a e1, e1, e2, e3⟩
theorem reps_ints : ∀ ns : List Int, Reps K H ρ (ns.map .int) (ns.map V.int)
  | [] => rfl
  | n :: ns => ⟨.int n, ns.map V.int, rfl, rfl, reps_ints ns⟩
/-- a list as it is read -/
theorem list_at (S : SimH K G H ρ h) {v : Val} {x : V} {xs : List PyData} (r : RepV K G H ρ v x) (e : toDat h v = some (.list xs)) : ∃ a vs, x = .ref a ∧ SqL K H a vs ∧ Reps K H ρ xs vs := by
  cases v with
  | dat d =>
    have e : d = .list xs := by simpa [toDat] using e
    subst e
    obtain ⟨a, vs, e1, e2, e3⟩ := r
    exact ⟨a, vs, e1, e2.sq, e3⟩
  | ref n =>
    have e : (match h[n]? with
      | some (.lst xs) => some (PyData.list xs)
      | _ => none) = some (.list xs) := e
    split at e
    · rename_i ys q
      cases e
      obtain ⟨a, vs, e1, _, e2, e3⟩ := S.cell_at r q
      exact ⟨a, vs, e1, .of e2, e3⟩
    · cases e
  | scr ns =>
    have e : xs = ns.map .int := by simpa [toDat, eq_comm] using e
    subst e
    obtain ⟨a, e1, e2⟩ := r
    refine ⟨a, ns.map V.int, e1, ?_, reps_ints ns⟩
    rcases e2 with ⟨⟨o, q⟩, _⟩ | q
    · exact .inl (.inr ⟨o, q⟩)
    · exact .inr q
  | thk => cases e
  | exc e' => cases e
/-- a tracked list: no script -/
def toTrk (h : Hep) : Val → Option (List PyData)
  | .dat (.list xs) => some xs
  | .ref n => match h[n]? with
    | some (.lst xs) => some xs
    | _ => none
  | _ => none
theorem trk_at (S : SimH K G H ρ h) {v : Val} {x : V} {xs : List PyData} (r : RepV K G H ρ v x) (e : toTrk h v = some xs) : ∃ a vs, x = .ref a ∧ H a = some (.lst vs) ∧ Reps K H ρ xs vs := by
  unfold toTrk at e
  split at e
  · cases e
    obtain ⟨a, vs, e1, e2, e3⟩ := r
    exact ⟨a, vs, e1, e2.1, e3⟩
  · split at e
    · rename_i ys q
      cases e
      obtain ⟨a, vs, e1, _, e2, e3⟩ := S.cell_at r q
      exact ⟨a, vs, e1, e2, e3⟩
    · cases e
  · cases e
theorem dat_of {v : Val} {d : PyData} (e : toDat h v = some d) (hn : ∀ xs, d ≠ .list xs) : v = .dat d := by
  cases v with
  | dat d' => simpa [toDat] using e
  | ref n =>
    have e : (match h[n]? with
      | some (.lst xs) => some (PyData.list xs)
      | _ => none) = some d := e
    split at e
    · exact (hn _ (Option.some.inj e).symm).elim
    · cases e
  | scr ns => exact (hn _ (Option.some.inj e).symm).elim
  | thk => cases e
  | exc e' => cases e
theorem tup_at {v : Val} {x : V} {xs : List PyData} (r : RepV K G H ρ v x) (e : toDat h v = some (.tuple xs)) : ∃ a vs, x = .ref a ∧ RdT K H ρ a vs ∧ Reps K H ρ xs vs := by
  rw [dat_of e (by intro ys z; cases z)] at r
  exact r
mutual
theorem Rep.dp : ∀ (d : PyData) (v : V), d.plain = true → Rep K H ρ d v → Dp K H v d
  | .none, v, _, h => by rw [show v = .non from h]; exact .non
  | .bool b, v, _, h => by rw [show v = .bl b from h]; exact .bl b
  | .int i, v, _, h => by rw [show v = .int i from h]; exact .int i
  | .str x, v, _, h => by rw [show v = .str x from h]; exact .str x
  | .list ds, v, p, h => by
    obtain ⟨a, xs, e, r, q⟩ := h
    rw [e]
    exact .lst r.sq (Reps.dp ds xs (by simpa [PyData.plain] using p) q)
  | .tuple ds, v, p, h => by
    obtain ⟨a, xs, e, r, q⟩ := h
    rw [e]
    exact .tup r.sq (Reps.dp ds xs (by simpa [PyData.plain] using p) q)
  | .dict kvs, v, p, _ => by simp [PyData.plain] at p
theorem Reps.dp : ∀ (ds : List PyData) (vs : List V), PyData.plainAll ds = true → Reps K H ρ ds vs → DpAll K H vs ds
  | [], vs, _, h => by rw [show vs = [] from h]; exact .nil
  | d :: ds, vs, p, h => by
    obtain ⟨v, r, e, h1, h2⟩ := h
    rw [e]
    have p' : d.plain = true ∧ PyData.plainAll ds = true := by simpa [PyData.plainAll] using p
    exact .cons (Rep.dp d v p'.1 h1) (Reps.dp ds r p'.2 h2)
end
theorem dp_at (S : SimH K G H ρ h) {v : Val} {x : V} {d : PyData} (r : RepV K G H ρ v x) (e : toDat h v = some d) (p : d.plain = true) : Dp K H x d := by
  by_cases hl : ∃ xs, d = .list xs
  · obtain ⟨xs, rfl⟩ := hl
    obtain ⟨a, vs, e1, e2, e3⟩ := list_at S r e
    rw [e1]
    exact .lst e2 (Reps.dp xs vs (by simpa [PyData.plain] using p) e3)
  · rw [dat_of e (fun xs z => hl ⟨xs, z⟩)] at r
    exact Rep.dp d x p r
/-- a new list, a new tuple of data -/
theorem rep_newL (S : SimH K G H ρ h) {p : Addr} {xs : List PyData} {vs : List V} (hp : H p = none) (r : Reps K H ρ xs vs) : Rep K (upd H p (.lst vs)) ρ (.list xs) (.ref p) :=
  ⟨p, vs, rfl, ⟨upd_same, S.fresh hp⟩, r.step (S.stepNew hp)⟩
theorem rep_newT (S : SimH K G H ρ h) {p : Addr} {xs : List PyData} {vs : List V} {o : Obj} (hp : H p = none) (ho : o.dict = none) (r : Reps K H ρ xs vs) : Rep K (upd H p (.frz o (.tup vs))) ρ (.tuple xs) (.ref p) :=
  ⟨p, vs, rfl, .inl ⟨⟨o, upd_same, ho⟩, S.fresh hp⟩, r.step (S.stepNew hp)⟩
end
/-- the answer is data, nothing else has happened -/
theorem Wp.dat {D : Wd} {W : WX} {σ : L2.St} {ρ : Rho} {H : Hp} {d : PyData} {b : V} {h : Hep} {Q : VK} (w : Wp D W (RV D) σ ρ H (.ok (.dat d) h) Q) (S : SimH D.K D.G H ρ h) (r : Rep D.K H ρ d b) : Q b H := w ρ H b .refl S r
theorem Wp.newL {D : Wd} {W : WX} {σ : L2.St} {ρ : Rho} {H : Hp} {xs : List PyData} {vs : List V} {h : Hep} {Q : VK} {p : Addr} (w : Wp D W (RV D) σ ρ H (.ok (.dat (.list xs)) h) Q) (S : SimH D.K D.G H ρ h) (r : Reps D.K H ρ xs vs) (hp : H p = none) : Q (.ref p) (upd H p (.lst vs)) :=
  w ρ _ _ (S.stepNew hp) (S.new hp) (rep_newL S hp r)
theorem Wp.newT {D : Wd} {W : WX} {σ : L2.St} {ρ : Rho} {H : Hp} {xs : List PyData} {vs : List V} {h : Hep} {Q : VK} (w : Wp D W (RV D) σ ρ H (.ok (.dat (.tuple xs)) h) Q) (S : SimH D.K D.G H ρ h) (r : Reps D.K H ρ xs vs) : NewT H vs Q := fun p o hp ho =>
  w ρ _ _ (S.stepNew hp) (S.new hp) (rep_newT S hp ho r)

/-! ### arithmetic -/
def ok (d : PyData) (h : Hep) : Out Val := .ok (.dat d) h
def mulOk (i j : Int) : Bool := decide (i.natAbs < 2 ^ 64) || decide (j.natAbs < 2 ^ 64) || decide (i.natAbs.log2 + j.natAbs.log2 < 1000000)
def dAdd : F2 := fun a b h => match toTrk h a, toTrk h b with
  | some xs, some ys => if xs.length + ys.length ≤ sizeLine then ok (.list (xs ++ ys)) h else .bad
  | _, _ => match a, b with
    | .dat (.int i), .dat (.int j) => ok (.int (i + j)) h
    | .dat (.str x), .dat (.str y) => if x.length + y.length ≤ sizeLine then ok (.str (x ++ y)) h else .bad
    | .dat (.tuple xs), .dat (.tuple ys) => if xs.length + ys.length ≤ sizeLine then ok (.tuple (xs ++ ys)) h else .bad
    | _, _ => .bad
def dSub : F2 := fun a b h => match a, b with
  | .dat (.int i), .dat (.int j) => ok (.int (i - j)) h
  | _, _ => .bad
def dMul : F2 := fun a b h => match a, b with
  | .dat (.int i), .dat (.int j) => if mulOk i j then ok (.int (i * j)) h else .bad
  | .dat (.tuple xs), .dat (.int k) => if xs ≠ [] ∧ 2 ≤ k ∧ k ≤ 1000 ∧ xs.length ≤ 1000 then ok (.tuple (List.replicate k.toNat xs).flatten) h else if k = 1 then ok (.tuple xs) h else .bad
  | .dat (.list xs), .dat (.int k) => if -(2 ^ 63) ≤ k ∧ k < 2 ^ 63 ∧ xs.length * k.toNat ≤ sizeLine then ok (.list (List.replicate k.toNat xs).flatten) h else .bad
  | _, _ => .bad
def dDiv : F2 := fun a b h => match a, b with
  | .dat (.int i), .dat (.int j) => if 0 < j ∧ j.natAbs.log2 < 9000 then ok (.int (i / j)) h else .bad
  | _, _ => .bad
def dMod : F2 := fun a b h => match a, b with
  | .dat (.int i), .dat (.int j) => if 0 < j then ok (.int (i % j)) h else .bad
  | _, _ => .bad
def dPow : F2 := fun a b h => match a, b with
  | .dat (.int i), .dat (.int j) => if 0 ≤ j ∧ j ≤ 1000000 ∧ i.natAbs < 2 ^ 64 then ok (.int (i ^ j.toNat)) h else .bad
  | _, _ => .bad
theorem reps_rep {K H ρ} {xs : List PyData} {vs : List V} (r : Reps K H ρ xs vs) : ∀ n : Nat, Reps K H ρ (List.replicate n xs).flatten (List.replicate n vs).flatten
  | 0 => Reps.nil
  | n + 1 => by
    rw [List.replicate_succ, List.replicate_succ, List.flatten_cons, List.flatten_cons]
    exact r.append (reps_rep r n)
theorem natAbs_64 {i : Int} (h : i.natAbs < 2 ^ 64) : -(2 ^ 64) < i ∧ i < 2 ^ 64 := by omega
section
variable {G : Gh} {X : Cx}
theorem q_dAdd : Quiet2 dAdd := by
  intro a b h e h' z
  unfold dAdd ok at z
  repeat (first | (split at z) | cases z)
theorem q_dSub : Quiet2 dSub := by
  intro a b h e h' z
  unfold dSub ok at z
  repeat (first | (split at z) | cases z)
theorem q_dMul : Quiet2 dMul := by
  intro a b h e h' z
  unfold dMul ok at z
  repeat (first | (split at z) | cases z)
theorem q_dDiv : Quiet2 dDiv := by
  intro a b h e h' z
  unfold dDiv ok at z
  repeat (first | (split at z) | cases z)
theorem q_dMod : Quiet2 dMod := by
  intro a b h e h' z
  unfold dMod ok at z
  repeat (first | (split at z) | cases z)
theorem q_dPow : Quiet2 dPow := by
  intro a b h e h' z
  unfold dPow ok at z
  repeat (first | (split at z) | cases z)
theorem o_add : OpD G X (binaryOp .Add) dAdd := by
  intro pins s σ H x y v u Q I rx ry q
  obtain ⟨σ', ρ, h, a, b, S, ra, rb, w⟩ := q
  unfold dAdd at w
  split at w
  · rename_i xs ys ea eb
    split at w
    · rename_i hz
      obtain ⟨l, vs, rfl, hl, r1⟩ := trk_at S ra ea
      obtain ⟨l2, us, rfl, hl2, r2⟩ := trk_at S rb eb
      exact op_cat pins s σ H _ _ v u Q I rx ry ⟨l, l2, vs, us, rfl, rfl, hl, hl2, by rw [r1.len, r2.len]; exact hz, fun p hp => Wp.newL w S (r1.append r2) hp⟩
    · exact w.elim
  · split at w
    · have e1 : x = .int _ := ra
      have e2 : y = .int _ := rb
      exact op_add pins s σ H x y v u Q I rx ry ⟨_, _, e1, e2, Wp.dat w S rfl⟩
    · have e1 : x = .str _ := ra
      have e2 : y = .str _ := rb
      split at w
      · rename_i hz
        exact op_add_str pins s σ H x y v u Q I rx ry ⟨_, _, e1, e2, hz, Wp.dat w S rfl⟩
      · exact w.elim
    · split at w
      · rename_i hz
        obtain ⟨l, vs, rfl, hl, r1⟩ := ra
        obtain ⟨l2, us, rfl, hl2, r2⟩ := rb
        refine op_catZ pins s σ H _ _ v u Q I rx ry ⟨l, l2, vs, us, rfl, rfl, hl.sq, hl2.sq, by rw [r1.len, r2.len]; exact hz, fun e => ?_, fun _ e => ?_, fun _ _ => Wp.newT w S (r1.append r2)⟩
        · subst e
          have e3 := r1.len
          have e4 := List.eq_nil_of_length_eq_zero e3.symm
          subst e4
          exact Wp.dat w S ⟨l2, us, rfl, hl2, r2⟩
        · subst e
          have e3 := r2.len
          have e4 := List.eq_nil_of_length_eq_zero e3.symm
          subst e4
          rw [List.append_nil] at w
          exact Wp.dat w S ⟨l, vs, rfl, hl, r1⟩
      · exact w.elim
    · exact w.elim
theorem o_sub : OpD G X (binaryOp .Sub) dSub := by
  intro pins s σ H x y v u Q I rx ry q
  obtain ⟨σ', ρ, h, a, b, S, ra, rb, w⟩ := q
  unfold dSub at w
  split at w
  · have e1 : x = .int _ := ra
    have e2 : y = .int _ := rb
    exact op_sub pins s σ H x y v u Q I rx ry ⟨_, _, e1, e2, Wp.dat w S rfl⟩
  · exact w.elim
theorem o_mul : OpD G X (binaryOp .Mult) dMul := by
  intro pins s σ H x y v u Q I rx ry q
  obtain ⟨σ', ρ, h, a, b, S, ra, rb, w⟩ := q
  unfold dMul at w
  split at w
  · rename_i i j
    have e1 : x = .int i := ra
    have e2 : y = .int j := rb
    split at w
    · rename_i hz
      simp only [mulOk, Bool.or_eq_true, decide_eq_true_eq] at hz
      rcases hz with (hz | hz) | hz
      · exact op_mul pins s σ H x y v u Q I rx ry ⟨i, j, e1, e2, .inl (natAbs_64 hz), Wp.dat w S rfl⟩
      · exact op_mul pins s σ H x y v u Q I rx ry ⟨i, j, e1, e2, .inr (natAbs_64 hz), Wp.dat w S rfl⟩
      · exact op_mulW pins s σ H x y v u Q I rx ry ⟨i, j, e1, e2, hz, Wp.dat w S rfl⟩
    · exact w.elim
  · split at w
    · rename_i hz
      obtain ⟨h1, h2, h3, h4⟩ := hz
      obtain ⟨l, vs, rfl, hl, r1⟩ := ra
      have e2 : y = .int _ := rb
      refine op_repZ pins s σ H _ y v u Q I rx ry ⟨l, _, vs, rfl, e2, hl.sq, fun e => ?_, h2, h3, by rw [r1.len]; exact h4, Wp.newT w S (reps_rep r1 _)⟩
      subst e
      exact h1 (List.eq_nil_of_length_eq_zero r1.len.symm)
    · split at w
      · rename_i hk
        subst hk
        obtain ⟨l, vs, rfl, hl, r1⟩ := ra
        have e2 : y = .int 1 := rb
        exact op_repS pins s σ H _ y v u Q I rx ry ⟨l, vs, rfl, e2, hl.sq, w.ok S ⟨l, vs, rfl, hl, r1⟩⟩
      · exact w.elim
  · split at w
    · rename_i hz
      obtain ⟨h1, h2, h3⟩ := hz
      obtain ⟨l, vs, rfl, hl, r1⟩ := ra
      have e2 : y = .int _ := rb
      exact op_rep pins s σ H _ y v u Q I rx ry ⟨l, _, vs, rfl, e2, hl.1, h1, h2, by rw [r1.len]; exact h3, fun p hp => Wp.newL w S (reps_rep r1 _) hp⟩
    · exact w.elim
  · exact w.elim
theorem o_div : OpD G X (binaryOp .FloorDiv) dDiv := by
  intro pins s σ H x y v u Q I rx ry q
  obtain ⟨σ', ρ, h, a, b, S, ra, rb, w⟩ := q
  unfold dDiv at w
  split at w
  · have e1 : x = .int _ := ra
    have e2 : y = .int _ := rb
    split at w
    · rename_i hz
      exact op_fdivW pins s σ H x y v u Q I rx ry ⟨_, _, e1, e2, hz, Wp.dat w S rfl⟩
    · exact w.elim
  · exact w.elim
theorem o_mod : OpD G X (binaryOp .Mod) dMod := by
  intro pins s σ H x y v u Q I rx ry q
  obtain ⟨σ', ρ, h, a, b, S, ra, rb, w⟩ := q
  unfold dMod at w
  split at w
  · have e1 : x = .int _ := ra
    have e2 : y = .int _ := rb
    split at w
    · rename_i hz
      exact op_mod pins s σ H x y v u Q I rx ry ⟨_, _, e1, e2, hz, Wp.dat w S rfl⟩
    · exact w.elim
  · exact w.elim
theorem o_pow : OpD G X (binaryOp .Pow) dPow := by
  intro pins s σ H x y v u Q I rx ry q
  obtain ⟨σ', ρ, h, a, b, S, ra, rb, w⟩ := q
  unfold dPow at w
  split at w
  · have e1 : x = .int _ := ra
    have e2 : y = .int _ := rb
    split at w
    · rename_i hz
      exact op_pow pins s σ H x y v u Q I rx ry ⟨_, _, e1, e2, hz, Wp.dat w S rfl⟩
    · exact w.elim
  · exact w.elim
/-! ### comparisons -/
def dEq : F2 := fun a b h => match toDat h a, toDat h b with
  | some d, some e => if d.plain = true ∧ e.plain = true ∧ min d.depth e.depth ≤ 60 then ok (.bool (PyData.eqv d e)) h else .bad
  | _, _ => .bad
def dNe : F2 := fun a b h => match toDat h a, toDat h b with
  | some d, some e => if d.plain = true ∧ e.plain = true ∧ min d.depth e.depth ≤ 60 then ok (.bool (!PyData.eqv d e)) h else .bad
  | _, _ => .bad
def notNone : PyData → Bool
  | .none => false
  | _ => true
/-- an order: < (sw false, ng false), > (sw true, ng false), <= (sw true, ng true), >= (sw false, ng true) -/
def dOrd (sw ng : Bool) : F2 := fun a b h => match toDat h a, toDat h b with
  | some d, some e => if d.plain = true ∧ e.plain = true ∧ PySem.W.alike d e = true ∧ notNone d = true ∧ min d.depth e.depth ≤ 60 then ok (.bool (ng ^^ (cond sw (PySem.W.dataLt e d) (PySem.W.dataLt d e)))) h else .bad
  | _, _ => .bad
abbrev dLt : F2 := dOrd false false
abbrev dGt : F2 := dOrd true false
abbrev dLe : F2 := dOrd true true
abbrev dGe : F2 := dOrd false true
/-- x in c: a list, a tuple -/
def inD (d : PyData) : PyData → Option Bool
  | .list xs => if PyData.plainAll xs = true ∧ min (PyData.depthAll xs) d.depth ≤ 60 then some (xs.any fun y => PyData.eqv y d) else none
  | .tuple xs => if PyData.plainAll xs = true ∧ min (PyData.depthAll xs) d.depth ≤ 60 then some (xs.any fun y => PyData.eqv y d) else none
  | _ => none
def dIn (ng : Bool) : F2 := fun a b h => match toDat h a, toDat h b with
  | some d, some e => if d.plain = true then (match inD d e with
    | some r => ok (.bool (ng ^^ r)) h
    | none => .bad) else .bad
  | _, _ => .bad
/-- is None, is True -/
def dIs (ng : Bool) : F2 := fun a b h => match a, b with
  | .dat d, .dat .none => ok (.bool (ng ^^ !notNone d)) h
  | .dat (.bool p), .dat (.bool q) => ok (.bool (ng ^^ decide (p = q))) h
  | _, _ => .bad
theorem q_dEq : Quiet2 dEq := by
  intro a b h e h' z
  unfold dEq ok at z
  repeat (first | (split at z) | cases z)
theorem q_dNe : Quiet2 dNe := by
  intro a b h e h' z
  unfold dNe ok at z
  repeat (first | (split at z) | cases z)
theorem q_dOrd {sw ng} : Quiet2 (dOrd sw ng) := by
  intro a b h e h' z
  unfold dOrd ok at z
  repeat (first | (split at z) | cases z)
theorem q_dIn {ng} : Quiet2 (dIn ng) := by
  intro a b h e h' z
  unfold dIn ok at z
  repeat (first | (split at z) | cases z)
theorem q_dIs {ng} : Quiet2 (dIs ng) := by
  intro a b h e h' z
  unfold dIs ok at z
  repeat (first | (split at z) | cases z)
theorem o_eq (hu : X.A.units + 64 < cLine) : OpD G X (compareOp .Eq) dEq := by
  intro pins s σ H x y v u Q I rx ry q
  obtain ⟨σ', ρ, h, a, b, S, ra, rb, w⟩ := q
  unfold dEq at w
  split at w
  · rename_i d e ea eb
    split at w
    · rename_i c
      obtain ⟨as, r1⟩ := Dp.reads I d x v (dp_at S ra ea c.1) rx
      obtain ⟨bs, r2⟩ := Dp.reads I e y u (dp_at S rb eb c.2.1) ry
      exact SeqAt.eq_plain r1 r2 c.1 c.2.1 (by omega) ⟨.bl _, H, I, rfl, Wp.dat w S rfl⟩
    · exact w.elim
  · exact w.elim
theorem o_ne (hu : X.A.units + 64 < cLine) : OpD G X (compareOp .NotEq) dNe := by
  intro pins s σ H x y v u Q I rx ry q
  obtain ⟨σ', ρ, h, a, b, S, ra, rb, w⟩ := q
  unfold dNe at w
  split at w
  · rename_i d e ea eb
    split at w
    · rename_i c
      obtain ⟨as, r1⟩ := Dp.reads I d x v (dp_at S ra ea c.1) rx
      obtain ⟨bs, r2⟩ := Dp.reads I e y u (dp_at S rb eb c.2.1) ry
      exact SeqAt.ne_plain r1 r2 c.1 c.2.1 (by omega) ⟨.bl _, H, I, rfl, Wp.dat w S rfl⟩
    · exact w.elim
  · exact w.elim
theorem ord_of {sw ng : Bool} {op : CmpOp} (hu : X.A.units + 64 < cLine)
    (rule : ∀ (s : Shared) (a b : Value) (da db : PyData) (as bs : List Addr) (Q : Value → Shared → Prop), Reads s.heap a da as → Reads s.heap b db bs → PySem.W.alike da db = true → da ≠ .none → X.A.units + min da.depth db.depth < cLine →
      Q (.bool (ng ^^ (cond sw (PySem.W.dataLt db da) (PySem.W.dataLt da db)))) s → wpAny (model X.prog X.w) X.A (compareOp op a b) Q X.xe s) : OpD G X (compareOp op) (dOrd sw ng) := by
  intro pins s σ H x y v u Q I rx ry q
  obtain ⟨σ', ρ, h, a, b, S, ra, rb, w⟩ := q
  unfold dOrd at w
  split at w
  · rename_i d e ea eb
    split at w
    · rename_i c
      obtain ⟨as, r1⟩ := Dp.reads I d x v (dp_at S ra ea c.1) rx
      obtain ⟨bs, r2⟩ := Dp.reads I e y u (dp_at S rb eb c.2.1) ry
      exact rule _ _ _ d e _ _ _ r1 r2 c.2.2.1 (fun z => by have q := c.2.2.2.1; rw [z] at q; cases q) (by omega) ⟨.bl _, H, I, rfl, Wp.dat w S rfl⟩
    · exact w.elim
  · exact w.elim
theorem o_lt (hu : X.A.units + 64 < cLine) : OpD G X (compareOp .Lt) dLt := ord_of hu fun s a b da db as bs Q ra rb h hn hu q => PySem.W.lt_data ra rb h hn hu (by simpa using q)
theorem o_gt (hu : X.A.units + 64 < cLine) : OpD G X (compareOp .Gt) dGt := ord_of hu fun s a b da db as bs Q ra rb h hn hu q => PySem.W.gt_data ra rb h hn hu (by simpa using q)
theorem o_le (hu : X.A.units + 64 < cLine) : OpD G X (compareOp .LtE) dLe := ord_of hu fun s a b da db as bs Q ra rb h hn hu q => PySem.W.le_data ra rb h hn hu (by simpa using q)
theorem o_ge (hu : X.A.units + 64 < cLine) : OpD G X (compareOp .GtE) dGe := ord_of hu fun s a b da db as bs Q ra rb h hn hu q => PySem.W.ge_data ra rb h hn hu (by simpa using q)
theorem in_of {ng : Bool} {op : CmpOp} (hu : X.A.units + 64 < cLine)
    (ruleL : ∀ (s : Shared) (c x : Value) (xs : List PyData) (d : PyData) (as bs : List Addr) (Q : Value → Shared → Prop), Reads s.heap c (.list xs) as → Reads s.heap x d bs → PyData.plainAll xs = true → d.plain = true → X.A.units + 1 + min (PyData.depthAll xs) d.depth < cLine →
      Q (.bool (ng ^^ xs.any fun y => PyData.eqv y d)) s → wpAny (model X.prog X.w) X.A (compareOp op x c) Q X.xe s)
    (ruleT : ∀ (s : Shared) (c x : Value) (xs : List PyData) (d : PyData) (as bs : List Addr) (Q : Value → Shared → Prop), Reads s.heap c (.tuple xs) as → Reads s.heap x d bs → PyData.plainAll xs = true → d.plain = true → X.A.units + 1 + min (PyData.depthAll xs) d.depth < cLine →
      Q (.bool (ng ^^ xs.any fun y => PyData.eqv y d)) s → wpAny (model X.prog X.w) X.A (compareOp op x c) Q X.xe s) : OpD G X (compareOp op) (dIn ng) := by
  intro pins s σ H x y v u Q I rx ry q
  obtain ⟨σ', ρ, h, a, b, S, ra, rb, w⟩ := q
  unfold dIn at w
  split at w
  · rename_i d e ea eb
    split at w
    · rename_i pd
      obtain ⟨as, r1⟩ := Dp.reads I d x v (dp_at S ra ea pd) rx
      split at w
      · rename_i r er
        unfold inD at er
        split at er
        · rename_i xs
          split at er
          · rename_i c
            cases er
            obtain ⟨bs, r2⟩ := Dp.reads I (.list xs) y u (dp_at S rb eb (by simpa [PyData.plain] using c.1)) ry
            exact ruleL _ _ _ xs d _ _ _ r2 r1 c.1 pd (by omega) ⟨.bl _, H, I, rfl, Wp.dat w S rfl⟩
          · cases er
        · rename_i xs
          split at er
          · rename_i c
            cases er
            obtain ⟨bs, r2⟩ := Dp.reads I (.tuple xs) y u (dp_at S rb eb (by simpa [PyData.plain] using c.1)) ry
            exact ruleT _ _ _ xs d _ _ _ r2 r1 c.1 pd (by omega) ⟨.bl _, H, I, rfl, Wp.dat w S rfl⟩
          · cases er
        · cases er
      · exact w.elim
    · exact w.elim
  · exact w.elim
theorem o_in (hu : X.A.units + 64 < cLine) : OpD G X (compareOp .In) (dIn false) := in_of hu
  (fun s c x xs d as bs Q rc rx hx hd hu q => SeqAt.in_list_data rc rx hx hd hu (by simpa using q)) (fun s c x xs d as bs Q rc rx hx hd hu q => SeqAt.in_tuple_data rc rx hx hd hu (by simpa using q))
theorem o_notIn (hu : X.A.units + 64 < cLine) : OpD G X (compareOp .NotIn) (dIn true) := in_of hu
  (fun s c x xs d as bs Q rc rx hx hd hu q => SeqAt.notIn_list_data rc rx hx hd hu (by simpa using q)) (fun s c x xs d as bs Q rc rx hx hd hu q => SeqAt.notIn_tuple_data rc rx hx hd hu (by simpa using q))
theorem non_iff {K H ρ} {d : PyData} {x : V} (r : Rep K H ρ d x) : decide (x = .non) = !notNone d := by
  cases d with
  | none => rw [show x = .non from r]; rfl
  | bool b => rw [show x = .bl b from r]; rfl
  | int i => rw [show x = .int i from r]; rfl
  | str z => rw [show x = .str z from r]; rfl
  | list ds => obtain ⟨a, vs, e, _⟩ := r; rw [e]; rfl
  | tuple ds => obtain ⟨a, vs, e, _⟩ := r; rw [e]; rfl
  | dict ds => obtain ⟨a, vs, e, _⟩ := r; rw [e]; rfl
theorem o_is : OpD G X (compareOp .Is) (dIs false) := by
  intro pins s σ H x y v u Q I rx ry q
  obtain ⟨σ', ρ, h, a, b, S, ra, rb, w⟩ := q
  unfold dIs at w
  split at w
  · have e2 : y = .non := rb
    refine op_isN pins s σ H x y v u Q I rx ry ⟨e2, ?_⟩
    rw [non_iff ra]
    exact Wp.dat w S (by simp [Rep])
  · have e1 : x = .bl _ := ra
    have e2 : y = .bl _ := rb
    exact op_isBl pins s σ H x y v u Q I rx ry ⟨_, _, e1, e2, Wp.dat w S (by simp [Rep])⟩
  · exact w.elim
theorem o_isNot : OpD G X (compareOp .IsNot) (dIs true) := by
  intro pins s σ H x y v u Q I rx ry q
  obtain ⟨σ', ρ, h, a, b, S, ra, rb, w⟩ := q
  unfold dIs at w
  split at w
  · have e2 : y = .non := rb
    refine op_notN pins s σ H x y v u Q I rx ry ⟨e2, ?_⟩
    rw [non_iff ra]
    exact Wp.dat w S (by simp [Rep])
  · have e1 : x = .bl _ := ra
    have e2 : y = .bl _ := rb
    exact op_notBl pins s σ H x y v u Q I rx ry ⟨_, _, e1, e2, Wp.dat w S (by simp [Rep])⟩
  · exact w.elim
/-! ### chains, the minus -/
variable {W : WX} {a b c : Expr} {pos : Pos} {ma mb mc : ME}
theorem chain_of {f g : F2} {σ : L2.St} {H : Hp} {Q : VK} (qf : Quiet2 f) (qg : Quiet2 g) (r : rE (wd G X) W (mChain f g ma mb mc) σ H Q) :
    tChain (rOp (wd G X) (fun _ _ _ _ => False) f) (rOp (wd G X) (fun _ _ _ _ => False) g) (rE (wd G X) W ma) (rE (wd G X) W mb) (rE (wd G X) W mc) σ H Q := by
  refine rX.seq (R := RV (wd G X)) (f := fun x env h1 => (mb env h1).bind fun y h2 => (f x y h2).bind fun v h3 => kChain g mc y v env h3) r fun x v ρ1 H1 env h1 S1 r1 w1 => ?_
  refine ⟨ρ1, env, h1, S1, (Wp.bind (R := RV (wd G X)) w1).imp fun u H2 z => ?_⟩
  obtain ⟨ρ2, h2, y, s2, q2, r2, w2⟩ := z
  have S2 := S1.step s2 q2
  refine ⟨σ, ρ2, h2, x, y, q2, RepV.step s2 r1, r2, ?_⟩
  have w3 := Wp.bind (R := RV (wd G X)) w2
  cases e : f x y h2 with
  | bad => rw [e] at w3; exact w3
  | er e' h => exact (qf _ _ _ _ _ e).elim
  | ok a h =>
    rw [e] at w3
    refine fun ρ3 H3 z3 s3 q3 r3 => ?_
    obtain ⟨ρ4, h4, a', s4, q4, r4, w4⟩ := w3 ρ3 H3 z3 s3 q3 r3
    unfold kChain at w4
    split at w4
    · rename_i k
      refine ⟨k, r4, ?_⟩
      have S4 : Sim (wd G X) σ H3 ρ4 env h4 := S2.step s4 q4
      cases k with
      | false =>
        rw [if_neg Bool.false_ne_true] at w4 ⊢
        exact Wp.dat w4 q4 rfl
      | true =>
        rw [if_pos rfl] at w4 ⊢
        refine ⟨ρ4, env, h4, S4, (Wp.bind (R := RV (wd G X)) w4).imp fun u5 H5 z5 => ?_⟩
        obtain ⟨ρ5, h5, z, s5, q5, r5, w5⟩ := z5
        refine ⟨σ, ρ5, h5, y, z, q5, RepV.step (s4.trans s5) r2, r5, ?_⟩
        cases e5 : g y z h5 with
        | bad => rw [e5] at w5; exact w5
        | ok a h => rw [e5] at w5; exact w5
        | er e' h => exact (qg _ _ _ _ _ e5).elim
    · exact w4.elim
theorem e_chain {op op' : CmpOp} {f g : F2} (ho : OpD G X (compareOp op) f) (qf : Quiet2 f) (ho' : OpD G X (compareOp op') g) (qg : Quiet2 g) (ha : JE G W X a ma) (hb : JE G W X b mb) (hc : JE G W X c mc)
    (hm : lastMarks [op, op'] [b, c] = false := by with_unfolding_all rfl) : JE G W X (.Compare a [op, op'] [b, c] pos) (mChain f g ma mb mc) :=
  PE.to (pe_chain ho ho' ha hb hc hm) fun σ H Q r => chain_of qf qg r
theorem t_chain {op op' : CmpOp} {f g : F2} (ho : OpD G X (compareOp op) f) (qf : Quiet2 f) (ho' : OpD G X (compareOp op') g) (qg : Quiet2 g) (ha : JE G W X a ma) (hb : JE G W X b mb) (hc : JE G W X c mc)
    (hm : lastMarks [op, op'] [b, c] = false := by with_unfolding_all rfl) : JT G W X (.Compare a [op, op'] [b, c] pos) (mTest (mChain f g ma mb mc)) :=
  PT.to (pt_chain ho ho' ha hb hc hm) fun σ H Q r => chain_of qf qg (test_of r)
def kNeg (v : Val) (h : Hep) : Out Val := match v with
  | .dat (.int i) => ok (.int (-i)) h
  | _ => .bad
def mNeg (a : ME) : ME := fun env h => (a env h).bind kNeg
theorem e_neg (ha : JE G W X a ma) : JE G W X (.UnaryOp .USub a pos) (mNeg ma) := by
  refine PE.to (pe_un un_neg ha) fun σ H Q r => ?_
  refine rX.seq (R := RV (wd G X)) (f := fun v _ h1 => kNeg v h1) r fun x v ρ1 H1 env h1 S1 r1 w1 => ?_
  unfold kNeg at w1
  split at w1
  · exact ⟨_, r1, Wp.dat w1 S1.hp rfl⟩
  · exact w1.elim
end
end Vi
end Vi3_

section Vi4_
set_option Elab.async false
set_option linter.all false
set_option maxRecDepth 100000
namespace Vi
open PySem PySem.Spec PyProof.Rows L2

section
variable {G : Gh} {W : WX} {X : Cx} {e a b : Expr} {es : List Expr} {pos : Pos} {ma mb : ME} {mr : Env → Hep → Out (List Val)}
/-! ### arguments, displays -/
def mNil : Env → Hep → Out (List Val) := fun _ h => .ok [] h
def mCons (a : ME) (r : Env → Hep → Out (List Val)) : Env → Hep → Out (List Val) := fun env h => (a env h).bind fun x h1 => (r env h1).bind fun xs h2 => .ok (x :: xs) h2
theorem a_nil : JA G W X [] mNil := PA.to pa_nil fun σ H Q r => by
  obtain ⟨ρ, env, h, S, w⟩ := r
  exact w.ok S.hp .nil
theorem RVs.step {D : Wd} {ρ H ρ' H'} (s : Step ρ H ρ' H') : ∀ {xs : List Val} {vs : List V}, RVs D H ρ xs vs → RVs D H' ρ' xs vs
  | _, _, .nil => .nil
  | _, _, .cons r t => .cons (r.step s) (RVs.step s t)
theorem a_cons (ha : JE G W X a ma) (hr : JA G W X es mr) (hs : starEach (a :: es) X.env = (false, eval a X.env) :: starEach es X.env := by rfl) : JA G W X (a :: es) (mCons ma mr) := by
  refine PA.to (pa_cons ha hr hs) fun σ H Q r => ?_
  refine rX.seq (R := RV (wd G X)) (f := fun x env h1 => (mr env h1).bind fun xs h2 => .ok (x :: xs) h2) r fun x v ρ1 H1 env h1 S1 r1 w1 => ?_
  refine ⟨ρ1, env, h1, S1, (Wp.bind (R := RVs (wd G X)) w1).imp fun vs H2 z => ?_⟩
  obtain ⟨ρ2, h2, xs, s2, q2, r2, w2⟩ := z
  exact w2.ok q2 (.cons (r1.step s2) r2)
/-- all of them are data -/
def dats : List Val → Option (List PyData)
  | [] => some []
  | .dat d :: r => (dats r).map (d :: ·)
  | _ :: _ => none
theorem dats_ok {D : Wd} {H ρ} : ∀ {xs : List Val} {vs : List V} {ds : List PyData}, RVs D H ρ xs vs → dats xs = some ds → Reps D.K H ρ ds vs
  | _, _, _, .nil, e => by cases e; rfl
  | x :: xs, _, ds, .cons r t, e => by
    cases x with
    | dat d =>
      have e : (dats xs).map (d :: ·) = some ds := e
      cases q : dats xs with
      | none => rw [q] at e; cases e
      | some r' =>
        rw [q] at e
        cases e
        exact ⟨_, _, rfl, r, dats_ok t q⟩
    | ref n => cases e
    | scr n => cases e
    | thk => cases e
    | exc n => cases e
theorem reps_vs {K G H ρ} {mg : Str → Option Value} : ∀ {ds : List PyData} {vs : List V}, Reps K H ρ ds vs → RVs ⟨K, mg, G⟩ H ρ (ds.map .dat) vs
  | [], vs, h => by rw [show vs = [] from h]; exact .nil
  | d :: ds, vs, h => by
    obtain ⟨v, r, e, h1, h2⟩ := h
    rw [e]
    exact .cons h1 (reps_vs h2)
def kTup (xs : List Val) (h : Hep) : Out Val := match dats xs with
  | some ds => if ds.length ≤ sizeLine then ok (.tuple ds) h else .bad
  | none => .bad
def kLst (xs : List Val) (h : Hep) : Out Val := match dats xs with
  | some ds => if ds.length ≤ sizeLine then ok (.list ds) h else .bad
  | none => .bad
def kCel (xs : List Val) (h : Hep) : Out Val := match dats xs with
  | some ds => if ds.length ≤ sizeLine then .ok (.ref h.length) (h ++ [.lst ds]) else .bad
  | none => .bad
def mTup (r : Env → Hep → Out (List Val)) : ME := fun env h => (r env h).bind kTup
def mLst (r : Env → Hep → Out (List Val)) : ME := fun env h => (r env h).bind kLst
def mCel (r : Env → Hep → Out (List Val)) : ME := fun env h => (r env h).bind kCel
theorem e_tup {x1} (hr : JA G W X es mr) : JE G W X (.Tuple es x1 pos) (mTup mr) := by
  refine PE.to (pe_tupZ hr) fun σ H Q r => ?_
  refine rX.seq (R := RVs (wd G X)) (f := fun xs _ h1 => kTup xs h1) r fun xs vs ρ1 H1 env h1 S1 r1 w1 => ?_
  unfold kTup at w1
  split at w1
  · rename_i ds q
    have rd := dats_ok r1 q
    split at w1
    · rename_i hz
      exact ⟨by rw [rd.len]; exact hz, Wp.newT w1 S1.hp rd⟩
    · exact w1.elim
  · exact w1.elim
theorem e_lst (hr : JA G W X es mr) : JE G W X (.List es pos) (mLst mr) := by
  refine PE.to (pe_lst hr) fun σ H Q r => ?_
  refine rX.seq (R := RVs (wd G X)) (f := fun xs _ h1 => kLst xs h1) r fun xs vs ρ1 H1 env h1 S1 r1 w1 => ?_
  unfold kLst at w1
  split at w1
  · rename_i ds q
    have rd := dats_ok r1 q
    split at w1
    · rename_i hz
      exact ⟨by rw [rd.len]; exact hz, fun p hp => Wp.newL w1 S1.hp rd hp⟩
    · exact w1.elim
  · exact w1.elim
theorem Wp.newC {D : Wd} {W : WX} {σ : L2.St} {ρ : Rho} {H : Hp} {xs : List PyData} {vs : List V} {h : Hep} {Q : VK} {p : Addr} (w : Wp D W (RV D) σ ρ H (.ok (.ref h.length) (h ++ [.lst xs])) Q) (S : SimH D.K D.G H ρ h) (r : Reps D.K H ρ xs vs) (hp : H p = none) : Q (.ref p) (upd H p (.lst vs)) := by
  have st : Step ρ H (ρ ++ [some p]) (upd H p (.lst vs)) := S.stepCell hp
  refine w (ρ ++ [some p]) _ _ st (S.cell hp ⟨vs, upd_same, r.step st⟩) ⟨by simp [S.len], fun a e => ?_⟩
  rw [← S.len, List.getElem?_append_right (Nat.le_refl _)] at e
  have e : p = a := by simpa using e
  rw [e]
/-- a list display that will be written to -/
theorem e_cel (hr : JA G W X es mr) : JE G W X (.List es pos) (mCel mr) := by
  refine PE.to (pe_lst hr) fun σ H Q r => ?_
  refine rX.seq (R := RVs (wd G X)) (f := fun xs _ h1 => kCel xs h1) r fun xs vs ρ1 H1 env h1 S1 r1 w1 => ?_
  unfold kCel at w1
  split at w1
  · rename_i ds q
    have rd := dats_ok r1 q
    split at w1
    · rename_i hz
      exact ⟨by rw [rd.len]; exact hz, fun p hp => Wp.newC w1 S1.hp rd hp⟩
    · exact w1.elim
  · exact w1.elim
/-- a name whose list is data from now on -/
def kFrz (v : Val) (h : Hep) : Out Val := match v with
  | .ref n => (match h[n]? with
    | some (.lst xs) => .ok (.dat (.list xs)) (h.set n .dead)
    | _ => .bad)
  | _ => .bad
def mFrz (m : ME) : ME := fun env h => (m env h).bind kFrz
theorem e_frz (he : JE G W X e ma) : JE G W X e (mFrz ma) := by
  refine PE.to he fun σ H Q r => ?_
  refine rX.seq (R := RV (wd G X)) (f := fun v _ h1 => kFrz v h1) r fun x v ρ1 H1 env h1 S1 r1 w1 => ?_
  unfold kFrz at w1
  split at w1
  · rename_i n
    split at w1
    · rename_i xs q
      obtain ⟨a, vs, e1, e2, e3, e4⟩ := S1.hp.cell_at r1 q
      rw [e1]
      exact w1 _ _ _ step_kill (S1.hp.kill n) (S1.hp.freeze e2 q)
    · exact w1.elim
  · exact w1.elim

/-! ### subscripts, slices -/
def cut {α : Type} (xs : List α) (lo hi : Option Int) : List α := (xs.drop (HT.sIx xs.length 0 lo)).take (HT.sIx xs.length xs.length hi - HT.sIx xs.length 0 lo)
theorem Reps.cut {K H ρ} {xs : List PyData} {vs : List V} (r : Reps K H ρ xs vs) (lo hi : Option Int) : Reps K H ρ (Vi.cut xs lo hi) (cutV vs lo hi) := by
  unfold Vi.cut cutV
  rw [r.len]
  exact (r.drop _).take _
def ixD (d : PyData) (i : Int) : Option PyData := match d with
  | .list xs => atI xs i
  | .tuple xs => atI xs i
  | .str z => if z.length ≤ sizeLine then (atI z.cps.toList i).map fun c => .str ⟨#[c]⟩ else none
  | _ => none
def dIx : F2 := fun a b h => match b with
  | .dat (.int i) => (match a with
    | .ref n => (match h[n]? with
      | some (.lst xs) => (match atI xs i with
        | some d => ok d h
        | none => .bad)
      | some (.refs ns) => (match atI ns i with
        | some m => .ok (.ref m) h
        | none => .bad)
      | _ => .bad)
    | _ => (match toDat h a with
      | some d => (match ixD d i with
        | some r => ok r h
        | none => .bad)
      | none => .bad))
  | _ => .bad
theorem q_dIx : Quiet2 dIx := by
  intro a b h e h' z
  unfold dIx ok at z
  repeat (first | (split at z) | cases z)
theorem atI_reps {K H ρ} {xs : List PyData} {vs : List V} (r : Reps K H ρ xs vs) {i : Int} {d : PyData} (e : atI xs i = some d) : ∃ v, atI vs i = some v ∧ Rep K H ρ d v := by
  unfold atI at e ⊢
  rw [r.len]
  cases q : ixN xs.length i with
  | none => rw [q] at e; cases e
  | some j =>
    rw [q] at e
    exact r.get j e
theorem ix_of : IxR X (rOp (wd G X) (fun _ _ _ _ => False) dIx) := by
  intro value slice pins s σ H x y v u Q I rx ry q hs
  obtain ⟨σ', ρ, h, a, b, S, ra, rb, w⟩ := q
  unfold dIx at w
  split at w
  · rename_i i
    have ey : y = .int i := rb
    split at w
    · rename_i n
      split at w
      · rename_i xs q
        obtain ⟨l, vs, e1, e2, e3, e4⟩ := S.cell_at ra q
        split at w
        · rename_i d ed
          obtain ⟨z, z1, z2⟩ := atI_reps e4 ed
          exact ix_list value slice pins s σ H x y v u Q I rx ry ⟨l, vs, i, z, e1, ey, .of e3, z1, Wp.dat w S z2⟩ hs
        · exact w.elim
      · rename_i ns q
        obtain ⟨l, e1, vs, e2, e3, e4⟩ := S.alive q (by simp)
        split at w
        · rename_i m em
          unfold atI at em
          cases qi : ixN ns.length i with
          | none => rw [qi] at em; cases em
          | some j =>
            rw [qi] at em
            have em : ns[j]? = some m := em
            have hj : j < vs.length := by
              rw [e3]
              exact (List.getElem?_eq_some_iff.mp em).1
            have ez := e4 j m _ em (List.getElem?_eq_getElem hj)
            refine ix_list value slice pins s σ H x y v u Q I rx ry ⟨l, vs, i, vs[j], ra.2 l e1, ey, .of e2, ?_, w _ _ _ .refl S ez⟩ hs
            unfold atI
            rw [e3, qi]
            exact List.getElem?_eq_getElem hj
        · exact w.elim
      · exact w.elim
    · split at w
      · rename_i d ed
        split at w
        · rename_i r er
          unfold ixD at er
          split at er
          · rename_i xs
            obtain ⟨l, vs, e1, e2, e3⟩ := list_at S ra ed
            obtain ⟨z, z1, z2⟩ := atI_reps e3 er
            exact ix_list value slice pins s σ H x y v u Q I rx ry ⟨l, vs, i, z, e1, ey, e2, z1, Wp.dat w S z2⟩ hs
          · rename_i xs
            obtain ⟨l, vs, e1, e2, e3⟩ := tup_at ra ed
            obtain ⟨z, z1, z2⟩ := atI_reps e3 er
            exact ix_tup value slice pins s σ H x y v u Q I rx ry ⟨l, vs, i, z, e1, ey, e2.sq, z1, Wp.dat w S z2⟩ hs
          · rename_i z
            split at er
            · rename_i hz
              cases ec : atI z.cps.toList i with
              | none => rw [ec] at er; cases er
              | some c =>
                rw [ec] at er
                cases er
                rw [dat_of ed (by intro ys q; cases q)] at ra
                exact ix_str value slice pins s σ H x y v u Q I rx ry ⟨z, i, c, ra, ey, hz, ec, Wp.dat w S rfl⟩ hs
            · cases er
          · cases er
        · exact w.elim
      · exact w.elim
  · exact w.elim
theorem e_ix (ha : JE G W X a ma) (hb : JE G W X b mb) (hs : PlainIx b) : JE G W X (.Subscript a b pos) (mBin dIx ma mb) :=
  PE.to (pe_ix ix_of ha hb hs) fun σ H Q r => bin_of q_dIx r
/-- a part of a slice -/
def mPart (m : ME) : Env → Hep → Out (Option Int) := fun env h => (m env h).bind fun v h1 => match v with
  | .dat (.int i) => .ok (some i) h1
  | _ => .bad
def mNoPart : Env → Hep → Out (Option Int) := fun _ h => .ok none h
def RO (_ : Hp) (_ : Rho) (a b : Option Int) : Prop := a = b
def JO (G : Gh) (W : WX) (X : Cx) (e : Option Expr) (m : Env → Hep → Out (Option Int)) : Prop := PO X e (rX (wd G X) W RO m)
theorem PO.to {X : Cx} {e : Option Expr} {t t' : TO} (h : PO X e t) (hw : ∀ σ H Q, t' σ H Q → t σ H Q) : PO X e t' := ⟨fun pins s σ H Q I q => h.run pins s σ H Q I (hw σ H Q q)⟩
theorem o_none : JO G W X none mNoPart := PO.to po_none fun σ H Q r => by
  obtain ⟨ρ, env, h, S, w⟩ := r
  exact w.ok S.hp rfl
theorem o_some (he : JE G W X e ma) : JO G W X (some e) (mPart ma) := by
  refine PO.to (po_some he) fun σ H Q r => ?_
  refine rX.seq (R := RV (wd G X)) (f := fun v _ h1 => match v with
    | .dat (.int i) => .ok (some i) h1
    | _ => .bad) r fun x v ρ1 H1 env h1 S1 r1 w1 => ?_
  split at w1
  · exact ⟨_, r1, w1.ok S1.hp rfl⟩
  · exact w1.elim
def slD (d : PyData) (lo hi : Option Int) : Option PyData := match d with
  | .list xs => some (.list (Vi.cut xs lo hi))
  | .tuple xs => some (.tuple (Vi.cut xs lo hi))
  | .str z => if z.length ≤ sizeLine then some (.str (Txt.slice z lo hi)) else none
  | _ => none
def kSl (v : Val) (lo hi : Option Int) (h : Hep) : Out Val := match toDat h v with
  | some d => (match slD d lo hi with
    | some r => ok r h
    | none => .bad)
  | none => .bad
def mSl (a : ME) (lo hi : Env → Hep → Out (Option Int)) : ME := fun env h => (a env h).bind fun v h1 => (lo env h1).bind fun l h2 => (hi env h2).bind fun u h3 => kSl v l u h3
theorem cut_all {α : Type} {xs : List α} {lo hi : Option Int} (h : HT.sIx xs.length 0 lo = 0 ∧ HT.sIx xs.length xs.length hi = xs.length) : Vi.cut xs lo hi = xs := by
  unfold Vi.cut
  rw [h.1, h.2]
  simp
theorem e_sl {lo hi : Option Expr} {p2 : Pos} {ml mh : Env → Hep → Out (Option Int)} (ha : JE G W X a ma) (hl : JO G W X lo ml) (hh : JO G W X hi mh) : JE G W X (.Subscript a (.Slice lo hi none p2) pos) (mSl ma ml mh) := by
  refine PE.to (pe_slice (sl_list.or (sl_tupZ.or C8.sl_txt)) ha hl hh) fun σ H Q r => ?_
  refine rX.seq (R := RV (wd G X)) (f := fun v env h1 => (ml env h1).bind fun l h2 => (mh env h2).bind fun u h3 => kSl v l u h3) r fun x v ρ1 H1 env h1 S1 r1 w1 => ?_
  refine ⟨ρ1, env, h1, S1, (Wp.bind (R := RO) w1).imp fun l H2 z => ?_⟩
  obtain ⟨ρ2, h2, l', s2, q2, r2, w2⟩ := z
  cases r2
  have S2 := S1.step s2 q2
  refine ⟨ρ2, env, h2, S2, (Wp.bind (R := RO) w2).imp fun u H3 z => ?_⟩
  obtain ⟨ρ3, h3, u', s3, q3, r3, w3⟩ := z
  cases r3
  have rx := r1.step (s2.trans s3)
  unfold kSl at w3
  split at w3
  · rename_i d ed
    split at w3
    · rename_i r er
      unfold slD at er
      split at er
      · rename_i xs
        cases er
        obtain ⟨a', vs, e1, e2, e3⟩ := list_at q3 rx ed
        exact .inl ⟨a', vs, e1, e2, fun p hp => Wp.newL w3 q3 (e3.cut _ _) hp⟩
      · rename_i xs
        cases er
        obtain ⟨a', vs, e1, e2, e3⟩ := tup_at rx ed
        refine .inr (.inl ⟨a', vs, e1, e2.sq, fun z => ?_, fun _ => Wp.newT w3 q3 (e3.cut _ _)⟩)
        rw [e3.len] at z
        rw [cut_all z] at w3
        exact Wp.dat w3 q3 ⟨a', vs, rfl, e2, e3⟩
      · rename_i z
        split at er
        · rename_i hz
          cases er
          rw [dat_of ed (by intro ys q; cases q)] at rx
          exact .inr (.inr ⟨z, rx, hz, Wp.dat w3 q3 rfl⟩)
        · cases er
      · cases er
    · exact w3.elim
  · exact w3.elim
end
end Vi
end Vi4_

section Vi5_
set_option Elab.async false
set_option linter.all false
set_option maxRecDepth 100000
namespace Vi
open PySem PySem.Spec PyProof.Rows L2

abbrev FL := List Val → Hep → Out Val
def rCl (D : Wd) (W : WX) (f : FL) : List V → Hp → VK → Prop := fun vs H Q => ∃ σ ρ h as, SimH D.K D.G H ρ h ∧ RVs D H ρ as vs ∧ Wp D W (RV D) σ ρ H (f as h) Q
def CallD (G : Gh) (X : Cx) (v : Value) (f : FL) : Prop := CallR X v (rCl (wd G X) (fun _ _ _ _ => False) f)
def QuietL (f : FL) : Prop := ∀ as h e h', f as h ≠ .er e h'
section
variable {G : Gh} {W : WX} {X : Cx} {e a b : Expr} {es : List Expr} {pos p : Pos} {ma mb : ME} {mr : Env → Hep → Out (List Val)}
def mCall (f : FL) (r : Env → Hep → Out (List Val)) : ME := fun env h => (r env h).bind f
theorem call_of {f : FL} {σ : L2.St} {H : Hp} {Q : VK} (q : QuietL f) (r : rE (wd G X) W (mCall f mr) σ H Q) : tCB (rCl (wd G X) (fun _ _ _ _ => False) f) (rA (wd G X) W mr) σ H Q := by
  refine rX.seq (R := RVs (wd G X)) (f := fun xs _ h1 => f xs h1) r fun xs vs ρ1 H1 env h1 S1 r1 w1 => ?_
  refine ⟨σ, ρ1, h1, xs, S1.hp, r1, ?_⟩
  cases e : f xs h1 with
  | bad => rw [e] at w1; exact w1
  | ok a h => rw [e] at w1; exact w1
  | er e' h => exact (q _ _ _ _ e).elim
theorem e_callB {id : String} {x : Str} {f : FL} (hc : CallD G X (.builtin id) f) (q : QuietL f) (hg : Gl X x) (hm : X.mg x = none) (hv : bootBuiltins x = some (.builtin id)) (ha : JA G W X (e :: es) mr) (hn : x ≠ "__name__" := by decide) (hdb : (x == ("__debug__" : Str)) = false := by decide)
    (he : starEach (e :: es) X.env = (false, eval e X.env) :: starEach es X.env := by rfl) (hpl : (backTo pos (starEach es X.env)).any (·.1) = false := by rfl) : JE G W X (.Call (.Name x p) (e :: es) [] pos) (mCall f mr) :=
  PE.to (pe_callB hc hg hm hv ha hn hdb he hpl) fun σ H Q r => call_of q r
theorem e_callTy {T : String} {x : Str} {f : FL} (hc : CallD G X (.type T) f) (q : QuietL f) (hg : Gl X x) (hm : X.mg x = none) (hv : bootBuiltins x = some (.type T)) (ha : JA G W X (e :: es) mr) (hn : x ≠ "__name__" := by decide) (hdb : (x == ("__debug__" : Str)) = false := by decide)
    (he : starEach (e :: es) X.env = (false, eval e X.env) :: starEach es X.env := by rfl) (hpl : (backTo pos (starEach es X.env)).any (·.1) = false := by rfl) : JE G W X (.Call (.Name x p) (e :: es) [] pos) (mCall f mr) :=
  PE.to (pe_callTy hc hg hm hv ha hn hdb he hpl) fun σ H Q r => call_of q r

/-! ### what the built-ins do -/
def lenD : PyData → Option Int
  | .list xs => some xs.length
  | .tuple xs => some xs.length
  | .str z => if z.length ≤ sizeLine then some z.length else none
  | _ => none
def fLen : FL := fun as h => match as with
  | [.ref n] => (match h[n]? with
    | some (.lst xs) => ok (.int xs.length) h
    | some (.refs ns) => ok (.int ns.length) h
    | _ => .bad)
  | [v] => (match toDat h v with
    | some d => (match lenD d with
      | some n => ok (.int n) h
      | none => .bad)
    | none => .bad)
  | _ => .bad
def fAbs : FL := fun as h => match as with
  | [.dat (.int i)] => ok (.int (if i < 0 then -i else i)) h
  | _ => .bad
def fInt : FL := fun as h => match as with
  | [.dat (.int i)] => ok (.int i) h
  | [.dat (.bool k)] => ok (.int (if k then 1 else 0)) h
  | _ => .bad
def boolsD : List PyData → Option (List Bool)
  | [] => some []
  | .bool b :: r => (boolsD r).map (b :: ·)
  | _ :: _ => none
def intsD : List PyData → Option (List Int)
  | [] => some []
  | .int b :: r => (intsD r).map (b :: ·)
  | _ :: _ => none
def fAll : FL := fun as h => match as with
  | [v] => (match toDat h v with
    | some (.list xs) => (match boolsD xs with
      | some bs => ok (.bool (bs.all id)) h
      | none => .bad)
    | _ => .bad)
  | _ => .bad
def fAny : FL := fun as h => match as with
  | [v] => (match toDat h v with
    | some (.list xs) => (match boolsD xs with
      | some bs => ok (.bool (bs.any id)) h
      | none => .bad)
    | _ => .bad)
  | _ => .bad
def itemsD : PyData → Option (List PyData)
  | .list xs => some xs
  | .tuple xs => some xs
  | _ => none
def fSum : FL := fun as h => match as with
  | [v] => (match (toDat h v).bind itemsD with
    | some xs => (match intsD xs with
      | some ns => ok (.int ns.sum) h
      | none => .bad)
    | none => .bad)
  | _ => .bad
/-- data that can be ordered -/
def Orders (xs : List PyData) : Prop := PyData.plainAll xs = true ∧ PySem.W.AlikeAll xs ∧ PyData.depthAll xs ≤ 60
open Classical in
noncomputable def fMin : FL := fun as h => match as with
  | [v] => (match (toDat h v).bind itemsD with
    | some (x :: xs) => if Orders (x :: xs) then ok (PySem.W.minD x xs) h else .bad
    | _ => .bad)
  | [.dat (.int i), .dat (.int j)] => ok (.int (if j < i then j else i)) h
  | _ => .bad
open Classical in
noncomputable def fMax : FL := fun as h => match as with
  | [v] => (match (toDat h v).bind itemsD with
    | some (x :: xs) => if Orders (x :: xs) then ok (PySem.W.maxD x xs) h else .bad
    | _ => .bad)
  | [.dat (.int i), .dat (.int j)] => ok (.int (if j > i then j else i)) h
  | _ => .bad
def fList : FL := fun as h => match as with
  | [v] => (match (toDat h v).bind itemsD with
    | some xs => ok (.list xs) h
    | none => .bad)
  | _ => .bad
def fListC : FL := fun as h => match as with
  | [v] => (match (toDat h v).bind itemsD with
    | some xs => .ok (.ref h.length) (h ++ [.lst xs])
    | none => .bad)
  | _ => .bad
def fTuple : FL := fun as h => match as with
  | [v] => (match (toDat h v).bind itemsD with
    | some xs => ok (.tuple xs) h
    | none => .bad)
  | _ => .bad
theorem rv1 {D : Wd} {H ρ} {a : Val} {vs : List V} (r : RVs D H ρ [a] vs) : ∃ x, vs = [x] ∧ RepV D.K D.G H ρ a x := by
  cases r with
  | cons r t => cases t; exact ⟨_, rfl, r⟩
theorem rv2 {D : Wd} {H ρ} {a b : Val} {vs : List V} (r : RVs D H ρ [a, b] vs) : ∃ x y, vs = [x, y] ∧ RepV D.K D.G H ρ a x ∧ RepV D.K D.G H ρ b y := by
  cases r with
  | cons r t =>
    cases t with
    | cons r' t => cases t; exact ⟨_, _, rfl, r, r'⟩
theorem q_fLen : QuietL fLen := by
  intro as h e h' z
  unfold fLen ok at z
  repeat (first | (split at z) | cases z)
theorem q_fAbs : QuietL fAbs := by
  intro as h e h' z
  unfold fAbs ok at z
  repeat (first | (split at z) | cases z)
theorem q_fInt : QuietL fInt := by
  intro as h e h' z
  unfold fInt ok at z
  repeat (first | (split at z) | cases z)
theorem q_fAll : QuietL fAll := by
  intro as h e h' z
  unfold fAll ok at z
  repeat (first | (split at z) | cases z)
theorem q_fAny : QuietL fAny := by
  intro as h e h' z
  unfold fAny ok at z
  repeat (first | (split at z) | cases z)
theorem q_fSum : QuietL fSum := by
  intro as h e h' z
  unfold fSum ok at z
  repeat (first | (split at z) | cases z)
theorem q_fMin : QuietL fMin := by
  intro as h e h' z
  unfold fMin ok at z
  repeat (first | (split at z) | cases z)
theorem q_fMax : QuietL fMax := by
  intro as h e h' z
  unfold fMax ok at z
  repeat (first | (split at z) | cases z)
theorem q_fList : QuietL fList := by
  intro as h e h' z
  unfold fList ok at z
  repeat (first | (split at z) | cases z)
theorem q_fListC : QuietL fListC := by
  intro as h e h' z
  unfold fListC at z
  repeat (first | (split at z) | cases z)
theorem q_fTuple : QuietL fTuple := by
  intro as h e h' z
  unfold fTuple ok at z
  repeat (first | (split at z) | cases z)
/-- a list or a tuple as it is read -/
theorem seq_at {K G H ρ} {h : Hep} (S : SimH K G H ρ h) {v : Val} {x : V} {xs : List PyData} (r : RepV K G H ρ v x) (e : (toDat h v).bind itemsD = some xs) :
    ∃ a vs, x = .ref a ∧ ((toDat h v = some (.list xs) ∧ SqL K H a vs) ∨ (toDat h v = some (.tuple xs) ∧ RdT K H ρ a vs)) ∧ Reps K H ρ xs vs := by
  cases q : toDat h v with
  | none => rw [q] at e; cases e
  | some d =>
    rw [q] at e
    have e : itemsD d = some xs := e
    cases d with
    | list ys =>
      cases e
      obtain ⟨a, vs, e1, e2, e3⟩ := list_at S r q
      exact ⟨a, vs, e1, .inl ⟨rfl, e2⟩, e3⟩
    | tuple ys =>
      cases e
      obtain ⟨a, vs, e1, e2, e3⟩ := tup_at r q
      exact ⟨a, vs, e1, .inr ⟨rfl, e2⟩, e3⟩
    | _ => cases e
theorem c_len : CallD G X (.builtin "len") fLen := by
  intro pins s σ H xs us Q I r q
  obtain ⟨σ', ρ, h, as, S, ra, w⟩ := q
  unfold fLen at w
  split at w
  · rename_i n
    obtain ⟨x, rfl, r1⟩ := rv1 ra
    split at w
    · rename_i ys e
      obtain ⟨a, vs, rfl, _, e2, e3⟩ := S.cell_at r1 e
      exact call_len pins s σ H _ us Q I r ⟨_, vs.length, rfl, .inl ⟨vs, .of e2, rfl⟩, Wp.dat w S (by rw [e3.len] <;> rfl)⟩
    · rename_i ns e
      obtain ⟨l, e1, vs, e2, e3, e4⟩ := S.alive e (by simp)
      rw [r1.2 l e1] at r
      exact call_len pins s σ H _ us Q I r ⟨_, vs.length, rfl, .inl ⟨vs, .of e2, rfl⟩, Wp.dat w S (by rw [e3] <;> rfl)⟩
    · exact w.elim
  · rename_i v _
    obtain ⟨x, rfl, r1⟩ := rv1 ra
    split at w
    · rename_i d ed
      split at w
      · rename_i n en
        unfold lenD at en
        split at en
        · cases en
          obtain ⟨a, vs, rfl, e2, e3⟩ := list_at S r1 ed
          exact call_len pins s σ H _ us Q I r ⟨_, vs.length, rfl, .inl ⟨vs, e2, rfl⟩, Wp.dat w S (by rw [e3.len] <;> rfl)⟩
        · cases en
          obtain ⟨a, vs, rfl, e2, e3⟩ := tup_at r1 ed
          exact call_len pins s σ H _ us Q I r ⟨_, vs.length, rfl, .inr ⟨vs, e2.sq, rfl⟩, Wp.dat w S (by rw [e3.len] <;> rfl)⟩
        · rename_i z
          split at en
          · rename_i hz
            cases en
            rw [dat_of ed (by intro ys q; cases q)] at r1
            exact call_len pins s σ H _ us Q I r ⟨_, z.length, rfl, by rw [show x = .str z from r1]; exact ⟨hz, rfl⟩, Wp.dat w S rfl⟩
          · cases en
        · cases en
      · exact w.elim
    · exact w.elim
  · exact w.elim
theorem c_abs : CallD G X (.builtin "abs") fAbs := by
  intro pins s σ H xs us Q I r q
  obtain ⟨σ', ρ, h, as, S, ra, w⟩ := q
  unfold fAbs at w
  split at w
  · obtain ⟨x, rfl, r1⟩ := rv1 ra
    exact call_abs pins s σ H _ us Q I r ⟨_, by rw [show x = .int _ from r1], Wp.dat w S rfl⟩
  · exact w.elim
theorem c_int : CallD G X (.type "int") fInt := by
  intro pins s σ H xs us Q I r q
  obtain ⟨σ', ρ, h, as, S, ra, w⟩ := q
  unfold fInt at w
  split at w
  · obtain ⟨x, rfl, r1⟩ := rv1 ra
    exact call_int1 pins s σ H _ us Q I r (.inl ⟨_, by rw [show x = .int _ from r1], Wp.dat w S rfl⟩)
  · obtain ⟨x, rfl, r1⟩ := rv1 ra
    exact call_int1 pins s σ H _ us Q I r (.inr ⟨_, by rw [show x = .bl _ from r1], Wp.dat w S rfl⟩)
  · exact w.elim
theorem bools_reps {K H ρ} : ∀ {xs : List PyData} {vs : List V} {bs : List Bool}, Reps K H ρ xs vs → boolsD xs = some bs → vs = bs.map V.bl
  | [], vs, bs, r, e => by cases e; exact r
  | x :: xs, vs, bs, r, e => by
    obtain ⟨v, t, rfl, r1, r2⟩ := r
    cases x with
    | bool b =>
      have e : (boolsD xs).map (b :: ·) = some bs := e
      cases q : boolsD xs with
      | none => rw [q] at e; cases e
      | some bs' =>
        rw [q] at e
        cases e
        rw [bools_reps r2 q, show v = .bl b from r1]
        rfl
    | _ => cases e
theorem ints_reps {K H ρ} : ∀ {xs : List PyData} {vs : List V} {bs : List Int}, Reps K H ρ xs vs → intsD xs = some bs → vs = bs.map V.int
  | [], vs, bs, r, e => by cases e; exact r
  | x :: xs, vs, bs, r, e => by
    obtain ⟨v, t, rfl, r1, r2⟩ := r
    cases x with
    | int b =>
      have e : (intsD xs).map (b :: ·) = some bs := e
      cases q : intsD xs with
      | none => rw [q] at e; cases e
      | some bs' =>
        rw [q] at e
        cases e
        rw [ints_reps r2 q, show v = .int b from r1]
        rfl
    | _ => cases e
theorem c_all (hc : X.calm = true) : CallD G X (.builtin "all") fAll := by
  intro pins s σ H xs us Q I r q
  obtain ⟨σ', ρ, h, as, S, ra, w⟩ := q
  unfold fAll at w
  split at w
  · obtain ⟨x, rfl, r1⟩ := rv1 ra
    split at w
    · rename_i ys ed
      split at w
      · rename_i bs eb
        obtain ⟨a, vs, rfl, e2, e3⟩ := list_at S r1 ed
        rw [bools_reps e3 eb] at e2
        exact cr_all hc pins s σ H _ us Q I r ⟨a, bs, rfl, e2, Wp.dat w S rfl⟩
      · exact w.elim
    · exact w.elim
  · exact w.elim
theorem c_any (hc : X.calm = true) : CallD G X (.builtin "any") fAny := by
  intro pins s σ H xs us Q I r q
  obtain ⟨σ', ρ, h, as, S, ra, w⟩ := q
  unfold fAny at w
  split at w
  · obtain ⟨x, rfl, r1⟩ := rv1 ra
    split at w
    · rename_i ys ed
      split at w
      · rename_i bs eb
        obtain ⟨a, vs, rfl, e2, e3⟩ := list_at S r1 ed
        rw [bools_reps e3 eb] at e2
        exact cr_any hc pins s σ H _ us Q I r ⟨a, bs, rfl, e2, Wp.dat w S rfl⟩
      · exact w.elim
    · exact w.elim
  · exact w.elim
theorem preSum_take (ns : List Int) : ∀ j, j ≤ ns.length → preSum (fun i => ns.getD i 0) j = (ns.take j).sum
  | 0, _ => by simp [preSum]
  | j + 1, hj => by
    have e : ns[j]? = some ns[j] := List.getElem?_eq_getElem (by omega)
    rw [preSum, preSum_take ns j (by omega), List.take_succ, List.sum_append]
    show _ + ns.getD j 0 = _
    rw [List.getD_eq_getElem?_getD, e]
    show _ + ns[j] = _ + [ns[j]].sum
    simp only [List.sum_cons, List.sum_nil, Int.add_zero]
theorem sum_tup {prog : Program} {w : World} {A : Around} {E : Value → Shared → Prop} {s : Shared} {l : Addr} {its : List Value} {ns : List Int} {Q : Value → Shared → Prop} (hh : A.handled = none) (hl : s.heap.IsTuple l its.toArray) (hi : IntsAre its ns)
    (h : ∀ h' tk t', (∀ b o, s.heap.get? b = some o → h'.get? b = some o) → Q (.int ns.sum t') { s with heap := h', toks := tk }) : wpAny (model prog w) A (call (.builtin "sum") [.ref l]) Q E s := by
  refine call_sum_walkAnyS (PySem.W.iter_tupleW (A := A.in1) hh hl fun s₂ e W st hfp hw hk => ?_)
  refine ⟨_, _, _, _, _, _, _, fun i => ns.getD i 0, rfl, W, st, hfp, fun i v hv => ?_, fun s' t' m => ?_⟩
  · have hv : its[i]? = some v := by simpa using hv
    have hvv := vals_of_ints hi
    obtain ⟨hlt, _⟩ := List.getElem?_eq_some_iff.mp hv
    have hn : i < ns.length := by rw [hi.length] at hlt; exact hlt
    obtain ⟨u, h1, h2⟩ := hvv.get (i := i) (x := .int ns[i]) (by rw [List.getElem?_map, List.getElem?_eq_getElem hn]; rfl)
    rw [hv] at h1
    cases h1
    obtain ⟨t, rfl⟩ := h2
    exact ⟨t, by
      show Value.int ns[i] t = Value.int (ns.getD i 0) t
      rw [List.getD_eq_getElem?_getD, List.getElem?_eq_getElem hn] <;> rfl⟩
  · obtain ⟨h', tk, rfl, hk'⟩ := PySem.W.moved_old e rfl m
    have e1 : its.toArray.size = ns.length := by rw [List.size_toArray]; exact hi.length
    rw [e1, preSum_take ns ns.length (Nat.le_refl _), List.take_length]
    exact h h' tk t' hk'
theorem c_sum (hc : X.calm = true) : CallD G X (.builtin "sum") fSum := by
  intro pins s σ H xs us Q I r q
  obtain ⟨σ', ρ, h, as, S, ra, w⟩ := q
  unfold fSum at w
  split at w
  · obtain ⟨x, rfl, r1⟩ := rv1 ra
    split at w
    · rename_i ys ed
      split at w
      · rename_i ns en
        obtain ⟨a, vs, rfl, e2, e3⟩ := seq_at S r1 ed
        have ev := ints_reps e3 en
        subst ev
        rcases e2 with ⟨_, e2⟩ | ⟨_, e2⟩
        · exact cr_sum hc pins s σ H _ us Q I r ⟨a, ns, rfl, e2, Wp.dat w S rfl⟩
        · obtain ⟨its, rv, hl, _⟩ := I.tuple e2.sq
          rw [Vals.ref1 r]
          exact sum_tup (I.ok.hd hc) hl rv.ints fun h' tk t' hk => ⟨.int _, H, I.kept hk, ⟨_, rfl⟩, Wp.dat w S rfl⟩
      · exact w.elim
    · exact w.elim
  · exact w.elim
theorem orders_read {K : PySem.W.Frag} {H : Hp} {xs : List PyData} {vs : List V} {us : List Value} {pins : List (Addr × Obj)} {σ : L2.St} {s : Shared} {ρ : Rho} (I : Inv X pins σ H s) (o : PyData.plainAll xs = true) (r : Reps X.K H ρ xs vs) (ru : Vals vs us) : ∃ as, ReadsAll s.heap us xs as :=
  Dp.readsAll I xs vs us (Reps.dp xs vs o r) ru
theorem pick_rep {K : PySem.W.Frag} {H : Hp} {ρ : Rho} {xs : List PyData} {vs : List V} {us : List Value} {h : Heap} {d : PyData} {as bs : List Addr} {i : Nat} {u : Value} (hp : PyData.plainAll xs = true) (r : Reps K H ρ xs vs) (ru : Vals vs us) (ra : ReadsAll h us xs as) (hi : us[i]? = some u) (rd : Reads h u d bs) :
    ∃ v, RelV v u ∧ Rep K H ρ d v := by
  have hl : i < vs.length := by
    rw [ru.length]
    exact (List.getElem?_eq_some_iff.mp hi).1
  obtain ⟨u', h1, h2⟩ := ru.get (i := i) (List.getElem?_eq_getElem hl)
  rw [hi] at h1
  cases h1
  obtain ⟨d', e1, e2⟩ := r.getV i (List.getElem?_eq_getElem hl)
  obtain ⟨bs', q1, q2, q3, _⟩ := PySem.W.readsAll_at ra i u hi
  have e3 : xs.getD i .none = d' := by rw [List.getD_eq_getElem?_getD, e1]; rfl
  rw [e3] at q1 q3
  have e4 : d' = d := SeqAt.plain_unique d' d u _ _ (PySem.W.plain_mem hp q3) q1 rd
  exact ⟨vs[i], h2, e4 ▸ e2⟩
theorem c_min (hc : X.calm = true) (hu : X.A.units + 64 < cLine) : CallD G X (.builtin "min") fMin := by
  intro pins s σ H xs us Q I r q
  obtain ⟨σ', ρ, h, as, S, ra, w⟩ := q
  unfold fMin at w
  split at w
  · obtain ⟨x, rfl, r1⟩ := rv1 ra
    split at w
    · rename_i y ys ed
      split at w
      · rename_i o
        obtain ⟨a, vs, rfl, e2, e3⟩ := seq_at S r1 ed
        rw [Vals.ref1 r]
        rcases e2 with ⟨_, e2⟩ | ⟨_, e2⟩
        · obtain ⟨its, rv, hl, _⟩ := I.list e2
          obtain ⟨bs, rd⟩ := orders_read (K := X.K) I o.1 e3 rv
          refine PySem.W.min_list_data (vs := its.toArray) (I.ok.hd hc) hl.isList rd o.2.1 (by have := o.2.2; omega) fun i v h' tk cs hi r' hk => ?_
          obtain ⟨z, z1, z2⟩ := pick_rep o.1 e3 rv (PyProof.Rows.ReadsAll.keeps hk rd) (by simpa using hi) r'
          exact ⟨z, H, I.kept hk, z1, Wp.dat w S z2⟩
        · obtain ⟨its, rv, hl, _⟩ := I.tuple e2.sq
          obtain ⟨bs, rd⟩ := orders_read (K := X.K) I o.1 e3 rv
          refine PySem.W.min_tuple_data (vs := its.toArray) (I.ok.hd hc) hl rd o.2.1 (by have := o.2.2; omega) fun i v h' tk cs hi r' hk => ?_
          obtain ⟨z, z1, z2⟩ := pick_rep o.1 e3 rv (PyProof.Rows.ReadsAll.keeps hk rd) (by simpa using hi) r'
          exact ⟨z, H, I.kept hk, z1, Wp.dat w S z2⟩
      · exact w.elim
    · exact w.elim
  · obtain ⟨x, y, rfl, r1, r2⟩ := rv2 ra
    exact call_min2 hc pins s σ H _ us Q I r ⟨_, _, by rw [show x = .int _ from r1, show y = .int _ from r2], Wp.dat w S rfl⟩
  · exact w.elim
theorem c_max (hc : X.calm = true) (hu : X.A.units + 64 < cLine) : CallD G X (.builtin "max") fMax := by
  intro pins s σ H xs us Q I r q
  obtain ⟨σ', ρ, h, as, S, ra, w⟩ := q
  unfold fMax at w
  split at w
  · obtain ⟨x, rfl, r1⟩ := rv1 ra
    split at w
    · rename_i y ys ed
      split at w
      · rename_i o
        obtain ⟨a, vs, rfl, e2, e3⟩ := seq_at S r1 ed
        rw [Vals.ref1 r]
        rcases e2 with ⟨_, e2⟩ | ⟨_, e2⟩
        · obtain ⟨its, rv, hl, _⟩ := I.list e2
          obtain ⟨bs, rd⟩ := orders_read (K := X.K) I o.1 e3 rv
          refine PySem.W.max_list_data (vs := its.toArray) (I.ok.hd hc) hl.isList rd o.2.1 (by have := o.2.2; omega) fun i v h' tk cs hi r' hk => ?_
          obtain ⟨z, z1, z2⟩ := pick_rep o.1 e3 rv (PyProof.Rows.ReadsAll.keeps hk rd) (by simpa using hi) r'
          exact ⟨z, H, I.kept hk, z1, Wp.dat w S z2⟩
        · obtain ⟨its, rv, hl, _⟩ := I.tuple e2.sq
          obtain ⟨bs, rd⟩ := orders_read (K := X.K) I o.1 e3 rv
          refine PySem.W.max_tuple_data (vs := its.toArray) (I.ok.hd hc) hl rd o.2.1 (by have := o.2.2; omega) fun i v h' tk cs hi r' hk => ?_
          obtain ⟨z, z1, z2⟩ := pick_rep o.1 e3 rv (PyProof.Rows.ReadsAll.keeps hk rd) (by simpa using hi) r'
          exact ⟨z, H, I.kept hk, z1, Wp.dat w S z2⟩
      · exact w.elim
    · exact w.elim
  · obtain ⟨x, y, rfl, r1, r2⟩ := rv2 ra
    exact call_max2 hc pins s σ H _ us Q I r ⟨_, _, by rw [show x = .int _ from r1, show y = .int _ from r2], Wp.dat w S rfl⟩
  · exact w.elim
theorem c_list : CallD G X (.type "list") fList := by
  intro pins s σ H xs us Q I r q
  obtain ⟨σ', ρ, h, as, S, ra, w⟩ := q
  unfold fList at w
  split at w
  · obtain ⟨x, rfl, r1⟩ := rv1 ra
    split at w
    · rename_i ys ed
      obtain ⟨a, vs, rfl, e2, e3⟩ := seq_at S r1 ed
      exact call_list_of pins s σ H _ us Q I r ⟨a, vs, rfl, e2.elim (fun z => .inl z.2) fun z => .inr z.2.sq, fun l hl => Wp.newL w S e3 hl⟩
    · exact w.elim
  · exact w.elim
theorem c_listC : CallD G X (.type "list") fListC := by
  intro pins s σ H xs us Q I r q
  obtain ⟨σ', ρ, h, as, S, ra, w⟩ := q
  unfold fListC at w
  split at w
  · obtain ⟨x, rfl, r1⟩ := rv1 ra
    split at w
    · rename_i ys ed
      obtain ⟨a, vs, rfl, e2, e3⟩ := seq_at S r1 ed
      exact call_list_of pins s σ H _ us Q I r ⟨a, vs, rfl, e2.elim (fun z => .inl z.2) fun z => .inr z.2.sq, fun l hl => Wp.newC w S e3 hl⟩
    · exact w.elim
  · exact w.elim
theorem c_tuple : CallD G X (.type "tuple") fTuple := by
  intro pins s σ H xs us Q I r q
  obtain ⟨σ', ρ, h, as, S, ra, w⟩ := q
  unfold fTuple at w
  split at w
  · obtain ⟨x, rfl, r1⟩ := rv1 ra
    split at w
    · rename_i ys ed
      obtain ⟨a, vs, rfl, e2, e3⟩ := seq_at S r1 ed
      rcases e2 with ⟨_, e2⟩ | ⟨_, e2⟩
      · exact call_tupleZ pins s σ H _ us Q I r ⟨a, vs, rfl, .inl ⟨e2, Wp.newT w S e3⟩⟩
      · exact call_tupleZ pins s σ H _ us Q I r ⟨a, vs, rfl, .inr ⟨e2.sq, Wp.dat w S ⟨a, vs, rfl, e2, e3⟩⟩⟩
    · exact w.elim
  · exact w.elim
/-! ### sorted -/
open Classical in
noncomputable def fSorted : FL := fun as h => match as with
  | [v] => (match (toDat h v).bind itemsD with
    | some xs => if PyData.plainAll xs = true ∧ PySem.W.AllAlike xs ∧ PySem.W.Sortable xs ∧ PyData.depthAll xs ≤ 60 then ok (.list (xs.mergeSort (PySem.W.dataLe false id))) h else .bad
    | none => .bad)
  | _ => .bad
theorem q_fSorted : QuietL fSorted := by
  intro as h e h' z
  unfold fSorted ok at z
  repeat (first | (split at z) | cases z)
section
variable {prog : Program} {w : World} {A : Around} {E : Value → Shared → Prop} {s : Shared} {l : Addr} {vs : List Value}
/-- a tuple's items, gathered in a new list -/
theorem gather_tup {Q : List Value → Shared → Prop} (hl : s.heap.IsTuple l vs.toArray) (hz : vs.length ≤ sizeLine)
    (h : Q vs { s with heap := (s.heap.push (seqObj "list" #[] 0)).update s.heap.objs.size (Obj.mapSeq (· ++ vs.toArray)) }) : wpAny (model prog w) A (collect (.ref l)) Q E s := by
  obtain ⟨o, ho, hc, n, hd⟩ := id hl
  have hN := Heap.get?_push_size (o := seqObj "list" #[] 0) s.heap rfl
  have ho' := Heap.get?_push_of_some (seqObj "list" #[] 0) ho
  unfold collect
  refine wpAny_bind (wpAny_runValue (codeAny_builtin entry_proto_collect' (wpAny_bind (wpAny_newList (wpAny_pure ⟨Code.quiet_builtin _ (by decide +kernel), codeAny_builtin entry_list_iadd' ?_⟩)))))
  show wpAny _ _ (Builtin.List.listExtendWith (.ref s.heap.objs.size) (.ref l) (.ref s.heap.objs.size)) _ _ { s with heap := s.heap.push (seqObj "list" #[] 0) }
  unfold Builtin.List.listExtendWith
  refine wpAny_bind (wpAny_typeOf (T := "tuple") ⟨o, ho', hc⟩ ?_)
  rw [if_pos (by rw [show (Value.type "tuple" == Value.type "tuple") = true from rfl, Bool.or_true])]
  refine wpAny_bind (listItems_at ho' hd (wpAny_bind (listItems_at (xs := #[]) (n := 0) hN rfl ?_)))
  rw [if_neg (by simp)]
  refine wpAny_bind (listUpdate_at (xs := #[]) (n := 0) hN rfl (wpAny_pure ?_) (Nat.zero_le _) (by simp only [Array.size_append, List.size_toArray, Array.size_empty, List.length_nil]; omega))
  show wpAny (model prog w) A (load s.heap.objs.size >>= fun o => match o.data with
      | .seq xs _ => pure xs.toList
      | _ => unsupported "internal:collect") Q E { s with heap := (s.heap.push (seqObj "list" #[] 0)).update s.heap.objs.size (Obj.mapSeq (· ++ vs.toArray)) }
  refine wpAny_bind (wpAny_load (get?_update_seq hN _) ?_)
  show wpAny _ _ (pure ((#[] : Array Value) ++ vs.toArray).toList) Q E _
  rw [show ((#[] : Array Value) ++ vs.toArray).toList = vs by simp]
  exact wpAny_pure h
/-- sorted(t), t a tuple -/
theorem sorted_tup {Q : Value → Shared → Prop} (hl : s.heap.IsTuple l vs.toArray) (hL : vs.length ≤ sizeLine)
    (body : ∀ E' : Value → Shared → Prop, wpAny (model prog w) A.in1.in1 (Builtin.«list.sort» ⟨[.ref (s.heap.objs.size + 1)], []⟩) (fun f s' => f = .done (.ret .none) ∧ Q (.ref (s.heap.objs.size + 1)) s') E' { s with heap := PySem.W.copyHeap s.heap vs }) :
    wpAny (model prog w) A (call (.builtin "sorted") [.ref l]) Q E s := by
  refine PyProof.Rows.call_function_entry_kw kind_sorted plain_sorted entry_sorted (PyProof.Rows.args_sorted1 _) ?_
  unfold Builtin.«sorted»
  refine wpAny_bind (m := checkCount "sorted" 1 1 _) (wpAny_pure (wpAny_bind (gather_tup hl hL (wpAny_bind (wpAny_newList ?_ hL)))))
  have e : ((s.heap.push (seqObj "list" #[] 0)).update s.heap.objs.size (Obj.mapSeq (· ++ vs.toArray))).objs.size = s.heap.objs.size + 1 := by rw [Heap.size_update, size_push']
  show wpAny _ _ _ _ _ { s with heap := PySem.W.copyHeap s.heap vs }
  rw [e]
  refine wpAny_bind (wpAny_holding (PyProof.Rows.wpAny_call_entry_kw slot_list_sort ⟨_, PySem.W.copyHeap_at s.heap vs, rfl⟩ entry_list_sort ?_ (PyProof.Rows.args_list_sort _)))
  refine wpAny_mono (body _) (fun f s' hf => ?_) fun _ _ e => e
  obtain ⟨rfl, hq⟩ := hf
  exact ⟨_, rfl, wpAny_pure ⟨_, rfl, hq⟩⟩
/-- sorted of a tuple of data -/
theorem sorted_tupD {β : Type} {R : Value → β → Prop} {enc : β → PyData} {bs : List β} {Q : Value → Shared → Prop} (hl : s.heap.IsTuple l vs.toArray) (e : PySem.W.EachIs R vs bs) (er : PySem.W.EachIs (fun v b => ∃ as, Reads s.heap v (enc b) as) vs bs) (hal : PySem.W.AllAlike (bs.map enc))
    (hk : PySem.W.Sortable (bs.map enc)) (hL : bs.length ≤ sizeLine) (hu : ∀ b, b ∈ bs → A.units + 2 + (enc b).depth < cLine)
    (h : ∀ out, out.length = bs.length → PySem.W.EachIs R out (bs.mergeSort (PySem.W.dataLe false enc)) → Q (.ref (s.heap.objs.size + 1)) { s with heap := sortedAll s.heap vs (List.toArray out) }) : wpAny (model prog w) A (call (.builtin "sorted") [.ref l]) Q E s := by
  have hv : vs.length ≤ sizeLine := by rw [e.length]; exact hL
  have er' := er.mono (R' := fun v b => ∃ as, Reads (PySem.W.sortingHeap (PySem.W.copyHeap s.heap vs) (s.heap.objs.size + 1) vs) v (enc b) as) fun _ _ ⟨as, r⟩ => ⟨as, PyProof.Rows.Reads.keeps (fun _ _ z => PySem.W.sorting_copy_old z) r⟩
  refine sorted_tup hl hv fun E' => ?_
  refine PySem.W.list_sort_vals (s := { s with heap := PySem.W.copyHeap s.heap vs }) (PySem.W.copyHeap_at s.heap vs) (PySem.W.SortsAt.data (PySem.W.each_map (R := fun v d => ∃ as, Reads (PySem.W.sortingHeap (PySem.W.copyHeap s.heap vs) (s.heap.objs.size + 1) vs) v d as) enc er') hal hk (PySem.W.bound_map fun b hb => by
    have := hu b hb
    show A.units + 1 + 1 + _ < _
    omega)) hv ⟨rfl, h _ (by rw [PySem.W.sortVals_length false rfl]; exact e.length) (PySem.W.sortVals_data false e er' hal)⟩
end
theorem depth_mem : ∀ {xs : List PyData} {d : PyData}, d ∈ xs → d.depth ≤ PyData.depthAll xs
  | x :: xs, d, h => by
    rw [PyData.depthAll]
    rcases List.mem_cons.mp h with e | e
    · rw [e]; omega
    · have := depth_mem e
      omega
theorem each_of {K : PySem.W.Frag} {H : Hp} {ρ : Rho} : ∀ {xs : List PyData} {vs : List V} {us : List Value}, Reps K H ρ xs vs → Vals vs us → PySem.W.EachIs (fun u d => ∃ v, RelV v u ∧ Rep K H ρ d v) us xs
  | [], vs, us, r, q => by
    rw [show vs = [] from r] at q
    cases q
    exact .nil
  | x :: xs, _, us, r, q => by
    obtain ⟨v, t, rfl, r1, r2⟩ := r
    cases q with
    | cons q1 q2 => exact .cons ⟨v, q1, r1⟩ (each_of r2 q2)
theorem each_to {K : PySem.W.Frag} {H : Hp} {ρ : Rho} : ∀ {xs : List PyData} {us : List Value}, PySem.W.EachIs (fun u d => ∃ v, RelV v u ∧ Rep K H ρ d v) us xs → ∃ vs, Vals vs us ∧ Reps K H ρ xs vs
  | _, _, .nil => ⟨[], .nil, rfl⟩
  | _, _, .cons ⟨v, h1, h2⟩ t => by
    obtain ⟨vs, q1, q2⟩ := each_to t
    exact ⟨v :: vs, .cons h1 q1, v, vs, rfl, h2, q2⟩
theorem reads_each {h : Heap} : ∀ {xs : List PyData} {us : List Value} {as : List Addr}, ReadsAll h us xs as → PySem.W.EachIs (fun u d => ∃ as, Reads h u (id d) as) us xs
  | _, _, _, .nil => .nil
  | _, _, _, .cons h1 h2 => .cons ⟨_, h1⟩ (reads_each h2)
theorem c_sorted (hu : X.A.units + 64 < cLine) : CallD G X (.builtin "sorted") fSorted := by
  intro pins s σ H xs us Q I r q
  obtain ⟨σ', ρ, h, as, S, ra, w⟩ := q
  unfold fSorted at w
  split at w
  · obtain ⟨x, rfl, r1⟩ := rv1 ra
    split at w
    · rename_i ys ed
      split at w
      · rename_i o
        obtain ⟨o1, o2, o3, o4⟩ := o
        obtain ⟨a, vs, rfl, e2, e3⟩ := seq_at S r1 ed
        rw [Vals.ref1 r]
        have o2' : PySem.W.AllAlike (ys.map id) := by rw [List.map_id]; exact o2
        have o3' : PySem.W.Sortable (ys.map id) := by rw [List.map_id]; exact o3
        have fin : ∀ (its out : List Value), Vals vs its → vs.length ≤ sizeLine → out.length = ys.length → PySem.W.EachIs (fun u d => ∃ v, RelV v u ∧ Rep X.K H ρ d v) out (ys.mergeSort (PySem.W.dataLe false id)) →
            EP X pins σ Q (.ref (s.heap.objs.size + 1)) { s with heap := sortedAll s.heap its (List.toArray out) } := fun its out rv hz ho he => by
          obtain ⟨vs', q1, q2⟩ := each_to he
          obtain ⟨ep, he'⟩ := PyProof.Rows.sortedAll_at s.heap its (List.toArray out)
          have hp : H (s.heap.objs.size + 1) = none := I.hok.fresh (Nat.le_succ _)
          exact ⟨.ref _, upd H (s.heap.objs.size + 1) (.lst vs'), I.laid (t' := s.toks) (fun _ _ => PyProof.Rows.sortedAll_old) (Nat.le_succ _) ⟨by rw [q1.length, ho, ← e3.len]; exact hz, out, ep, q1, he'⟩, rfl, Wp.newL w S q2 hp⟩
        have bd : ∀ b, b ∈ ys → X.A.units + 2 + (id b).depth < cLine := fun b hb => by
          have := depth_mem hb
          show _ + 2 + b.depth < _
          omega
        rcases e2 with ⟨_, e2⟩ | ⟨_, e2⟩
        · obtain ⟨its, rv, hl, hz⟩ := I.list e2
          obtain ⟨bs, rd⟩ := orders_read (K := X.K) I o1 e3 rv
          exact PySem.W.sorted_data hl.isList (each_of e3 rv) (reads_each rd) o2' o3' (by rw [← e3.len]; exact hz) bd fun out h1 h2 => fin its out rv hz h1 h2
        · obtain ⟨its, rv, hl, hz⟩ := I.tuple e2.sq
          obtain ⟨bs, rd⟩ := orders_read (K := X.K) I o1 e3 rv
          exact sorted_tupD hl (each_of e3 rv) (reads_each rd) o2' o3' (by rw [← e3.len]; exact hz) bd fun out h1 h2 => fin its out rv hz h1 h2
      · exact w.elim
    · exact w.elim
  · exact w.elim
/-! ### isinstance -/
def tyN : PyData → String
  | .none => "NoneType"
  | .bool _ => "bool"
  | .int _ => "int"
  | .str _ => "str"
  | .list _ => "list"
  | .tuple _ => "tuple"
  | .dict _ => "dict"
def tyV : Val → Option String
  | .dat d => some (tyN d)
  | .scr _ => some "list"
  | _ => none
def tyC (h : Hep) : Val → Option String
  | .ref n => (match h[n]? with
    | some (.lst _) => some "list"
    | some (.refs _) => some "list"
    | _ => none)
  | v => tyV v
theorem tyx_at {K : PySem.W.Frag} {H : Hp} {ρ : Rho} {h : Hep} (S : SimH K G H ρ h) {v : Val} {x : V} {T : String} (r : RepV K G H ρ v x) (e : tyC h v = some T) : TyX K H x (.type T) := by
  cases v with
  | dat d =>
    have e : some (tyN d) = some T := e
    cases e
    cases d with
    | none => rw [show x = .non from r]; exact .base .non
    | bool b => rw [show x = .bl b from r]; exact .base (.bl b)
    | int b => rw [show x = .int b from r]; exact .base (.int b)
    | str b => rw [show x = .str b from r]; exact .base (.str b)
    | list xs => obtain ⟨a, vs, rfl, e2, _⟩ := r; exact .base (.lst e2.1)
    | tuple xs =>
      obtain ⟨a, vs, rfl, e2, _⟩ := r
      rcases e2 with ⟨⟨o, e2, _⟩, _⟩ | ⟨o, its, n, e2, e3, _⟩
      · exact .fTuple e2
      · exact .kTuple e2 e3
    | dict kvs => obtain ⟨a, vs, rfl, e2, _⟩ := r; exact .base (.dK e2)
  | ref n =>
    have e : (match h[n]? with
      | some (.lst _) => some "list"
      | some (.refs _) => some "list"
      | _ => none) = some T := e
    split at e
    · rename_i ys q
      cases e
      obtain ⟨a, vs, rfl, _, e2, _⟩ := S.cell_at r q
      exact .base (.lst e2)
    · rename_i ns q
      cases e
      obtain ⟨l, e1, vs, e2, _⟩ := S.alive q (by simp)
      rw [r.2 l e1]
      exact .base (.lst e2)
    · cases e
  | scr ns =>
    cases e
    obtain ⟨a, rfl, e2⟩ := r
    rcases e2 with ⟨⟨o, q⟩, _⟩ | ⟨o, its, n, q, c, _⟩
    · exact .base (.frz q)
    · exact .kList q c
  | thk => cases e
  | exc e' => cases e
/-- the classes that are asked for -/
def isiB (T C : String) : Option Bool := kitB T C
def kIsi (Cs : List String) (v : Val) (h : Hep) : Out Val := match tyC h v with
  | some T => ok (.bool (Cs.any fun C => isiB T C == some true)) h
  | none => .bad
def mIsi (Cs : List String) (a : ME) : ME := fun env h => (a env h).bind (kIsi Cs)
/-- all answers are told -/
def tys : List String := ["NoneType", "bool", "int", "str", "list", "tuple", "dict"]
theorem tyC_in {h : Hep} {v : Val} {T : String} (e : tyC h v = some T) : T ∈ tys := by
  have key : ∀ d : PyData, tyN d ∈ tys := fun d => by cases d <;> simp [tyN, tys]
  cases v with
  | dat d => have e : some (tyN d) = some T := e; cases e; exact key d
  | ref n =>
    have e : (match h[n]? with
      | some (.lst _) => some "list"
      | some (.refs _) => some "list"
      | _ => none) = some T := e
    split at e <;> cases e <;> decide
  | scr ns => cases e; decide
  | thk => cases e
  | exc e' => cases e
def clsOk (C : String) : Bool := tys.all fun T => (isiB T C).isSome
theorem e_isi {C : String} {f : Expr} (hk : clsOk C = true) (ha : JE G W X a ma) (hg : Gl X "isinstance") (hm : X.mg "isinstance" = none) (hf : PE X f (tC (.ty C)))
    (hs : starEach [a, f] X.env = (false, eval a X.env) :: starEach [f] X.env := by rfl) (hs2 : starEach [f] X.env = (false, eval f X.env) :: starEach [] X.env := by rfl) (hpl : (backTo pos (starEach [f] X.env)).any (·.1) = false := by rfl) :
    JE G W X (.Call (.Name "isinstance" p) [a, f] [] pos) (mIsi [C] ma) := by
  refine PE.to (pe_callB call_isi hg hm PyProof.Rows.boot_isinstance (pa_cons ha (pa_cons hf pa_nil hs2) hs) (by decide) (by decide) hs hpl) fun σ H Q r => ?_
  refine rX.seq (R := RV (wd G X)) (f := fun v _ h1 => kIsi [C] v h1) r fun v x ρ1 H1 env h1 S1 r1 w1 => ?_
  unfold kIsi at w1
  split at w1
  · rename_i T eT
    have hin := List.all_eq_true.mp hk T (tyC_in eT)
    cases q : isiB T C with
    | none => rw [q] at hin; cases hin
    | some bb =>
      refine ⟨x, .ty C, _, _, bb, rfl, .ty C, tyx_at S1.hp r1 eT, kit_ty q, ?_⟩
      refine Wp.dat w1 S1.hp ?_
      show V.bl bb = V.bl _
      simp only [List.any_cons, List.any_nil, Bool.or_false, q]
      cases bb <;> rfl
  · exact w1.elim
theorem cls_int : clsOk "int" = true := by decide +kernel
theorem cls_bool : clsOk "bool" = true := by decide +kernel
theorem cls_str : clsOk "str" = true := by decide +kernel
theorem cls_list : clsOk "list" = true := by decide +kernel
theorem cls_tuple : clsOk "tuple" = true := by decide +kernel
theorem cls_dict : clsOk "dict" = true := by decide +kernel
theorem kitAny_all {K : PySem.W.Frag} {T : String} : ∀ {Cs : List String}, (∀ C ∈ Cs, (isiB T C).isSome = true) → PySem.W.kitAny K (.type T) (Cs.map Value.type) = some (Cs.any fun C => isiB T C == some true)
  | [], _ => kitAny_nil
  | C :: Cs, h => by
    have h1 := h C List.mem_cons_self
    cases q : isiB T C with
    | none => rw [q] at h1; cases h1
    | some b =>
      rw [List.map_cons]
      refine kitAny_cons (b := b) (kit_ty q) (fun e => ?_) fun e => ?_
      · rw [kitAny_all fun C' hC => h C' (List.mem_cons_of_mem _ hC), List.any_cons, q, e]
        rfl
      · rw [List.any_cons, q, e]
        rfl
theorem cls_vals : ∀ Cs : List String, Paired ClsV (Cs.map V.ty) (Cs.map Value.type)
  | [] => .nil
  | C :: Cs => .cons (.ty C) (cls_vals Cs)
theorem e_isiT {Cs : List String} {fs : List Expr} {x1 : Nat} {p2 : Pos} (hk : ∀ C ∈ Cs, clsOk C = true) (hz : Cs.length ≤ sizeLine) (ha : JE G W X a ma) (hg : Gl X "isinstance") (hm : X.mg "isinstance" = none) (hf : PA X fs (fun _ H Q => Q (Cs.map V.ty) H))
    (hs : starEach [a, .Tuple fs x1 p2] X.env = (false, eval a X.env) :: starEach [.Tuple fs x1 p2] X.env := by rfl) (hs2 : starEach [.Tuple fs x1 p2] X.env = (false, eval (.Tuple fs x1 p2) X.env) :: starEach [] X.env := by rfl) (hpl : (backTo pos (starEach [.Tuple fs x1 p2] X.env)).any (·.1) = false := by rfl) :
    JE G W X (.Call (.Name "isinstance" p) [a, .Tuple fs x1 p2] [] pos) (mIsi Cs ma) := by
  refine PE.to (pe_callB call_isiT hg hm PyProof.Rows.boot_isinstance (pa_cons ha (pa_cons (pe_tup hf) pa_nil hs2) hs) (by decide) (by decide) hs hpl) fun σ H Q r => ?_
  refine rX.seq (R := RV (wd G X)) (f := fun v _ h1 => kIsi Cs v h1) r fun v x ρ1 H1 env h1 S1 r1 w1 => ?_
  unfold kIsi at w1
  split at w1
  · rename_i T eT
    refine ⟨by rw [List.length_map]; exact hz, fun tp htp => ?_⟩
    have st := S1.hp.stepNew (o := .tup (Cs.map V.ty)) htp
    refine ⟨x, tp, Cs.map V.ty, _, Cs.map Value.type, _, rfl, upd_same, cls_vals Cs, tyx_at (S1.hp.new htp) (r1.step st) eT, kitAny_all fun C hC => List.all_eq_true.mp (hk C hC) T (tyC_in eT), ?_⟩
    exact Wp.dat (Wp.step st w1) (S1.hp.new htp) rfl
  · exact w1.elim
theorem pa_ty {C : String} {f : Expr} {fs : List Expr} {Cs : List V} (hf : PE X f (tC (.ty C))) (hr : PA X fs (fun _ H Q => Q Cs H)) (hs : starEach (f :: fs) X.env = (false, eval f X.env) :: starEach fs X.env := by rfl) : PA X (f :: fs) (fun _ H Q => Q (.ty C :: Cs) H) :=
  PA.to (pa_cons hf hr hs) fun _ _ _ q => q
theorem pa_ty0 : PA X [] (fun _ H Q => Q [] H) := PA.to pa_nil fun _ _ _ q => q
end
end Vi
end Vi5_

section Vi6_
set_option Elab.async false
set_option linter.all false
set_option maxRecDepth 100000
namespace Vi
open PySem PySem.Spec PyProof.Rows L2

section
variable (D : Wd) (W : WX)
/-- a statement's end gives what is wanted behind it -/
def Ws (E : Ends) (ρ : Rho) (H : Hp) (o : SOut) : Prop := match o with
  | .bad => False
  | .nx env h => ∀ ρ' H' σ', Step ρ H ρ' H' → Sim D σ' H' ρ' env h → E.nx σ' H'
  | .bk env h => ∀ ρ' H' σ', Step ρ H ρ' H' → Sim D σ' H' ρ' env h → E.bk σ' H'
  | .ct env h => ∀ ρ' H' σ', Step ρ H ρ' H' → Sim D σ' H' ρ' env h → E.ct σ' H'
  | .rt v h => ∀ ρ' H' b, Step ρ H ρ' H' → SimH D.K D.G H' ρ' h → RepV D.K D.G H' ρ' v b → E.rt b H'
  | .er e env h => ∀ ρ' H' σ' cls dx, Step ρ H ρ' H' → Sim D σ' H' ρ' env h → ErrAt D.K D.mg H' ρ' e cls dx → W cls dx σ' H'
def rS (m : MS) : TS := fun E σ H => ∃ ρ env h, Sim D σ H ρ env h ∧ Ws D W E ρ H (m env h)
end
section
variable {D : Wd} {W : WX} {σ : L2.St} {ρ ρ' : Rho} {H H' : Hp} {E E' : Ends}
theorem Ws.step (s : Step ρ H ρ' H') {o : SOut} (w : Ws D W E ρ H o) : Ws D W E ρ' H' o := by
  cases o with
  | bad => exact w
  | nx env h => exact fun ρ2 H2 b s2 => w ρ2 H2 b (s.trans s2)
  | bk env h => exact fun ρ2 H2 b s2 => w ρ2 H2 b (s.trans s2)
  | ct env h => exact fun ρ2 H2 b s2 => w ρ2 H2 b (s.trans s2)
  | rt v h => exact fun ρ2 H2 b s2 => w ρ2 H2 b (s.trans s2)
  | er e env h => exact fun ρ2 H2 b c dx s2 => w ρ2 H2 b c dx (s.trans s2)
/-- out of an expression -/
def Out.st {α : Type} (o : Out α) (env : Env) (f : α → Hep → SOut) : SOut := match o with
  | .ok a h => f a h
  | .er e h => .er e env h
  | .bad => .bad
@[simp] theorem Out.st_ok {α : Type} {a : α} {h : Hep} {env : Env} {f : α → Hep → SOut} : (Out.ok a h).st env f = f a h := rfl
@[simp] theorem Out.st_er {α : Type} {e : Err} {h : Hep} {env : Env} {f : α → Hep → SOut} : (Out.er e h : Out α).st env f = .er e env h := rfl
@[simp] theorem Out.st_bad {α : Type} {env : Env} {f : α → Hep → SOut} : (Out.bad : Out α).st env f = .bad := rfl
theorem Ws.st {α β : Type} {R : Hp → Rho → α → β → Prop} {o : Out α} {env : Env} {h : Hep} {f : α → Hep → SOut} (S : Sim D σ H ρ env h) (w : Ws D W E ρ H (o.st env f)) :
    Wp D W R σ ρ H o (fun b H1 => ∃ ρ1 h1 a, Step ρ H ρ1 H1 ∧ Sim D σ H1 ρ1 env h1 ∧ R H1 ρ1 a b ∧ Ws D W E ρ1 H1 (f a h1)) := by
  cases o with
  | bad => exact w
  | ok a h => exact fun ρ2 H2 b s2 x y => ⟨ρ2, h, a, s2, S.step s2 x, y, Ws.step s2 w⟩
  | er e h => exact fun ρ2 H2 c dx s2 x y => w ρ2 H2 σ c dx s2 (S.step s2 x) y
/-- an expression ahead of the rest of a statement -/
theorem rS.seq {α β : Type} {R : Hp → Rho → α → β → Prop} {m : Env → Hep → Out α} {f : α → Env → Hep → SOut} {k : β → Hp → Prop}
    (r : rS D W (fun env h => (m env h).st env fun a h1 => f a env h1) E σ H)
    (hk : ∀ a b ρ1 H1 env h1, Sim D σ H1 ρ1 env h1 → R H1 ρ1 a b → Ws D W E ρ1 H1 (f a env h1) → k b H1) : rX D W R m σ H k := by
  obtain ⟨ρ, env, h, S, w⟩ := r
  refine ⟨ρ, env, h, S, (Ws.st (R := R) S w).imp fun b H1 z => ?_⟩
  obtain ⟨ρ1, h1, a, s1, q1, r1, w1⟩ := z
  exact hk a b ρ1 H1 env h1 q1 r1 w1
theorem Ws.nx {env : Env} {h : Hep} (w : Ws D W E ρ H (.nx env h)) (S : Sim D σ H ρ env h) : E.nx σ H := w ρ H σ .refl S
end

/-! ### statements -/
def JS (G : Gh) (W : WX) (X : Cx) (st : Stmt) (m : MS) : Prop := PS X st (rS (wd G X) W m)
def JSs (G : Gh) (W : WX) (X : Cx) (st : List Stmt) (m : MS) : Prop := PSs X st (rS (wd G X) W m)
def SOut.andThen (o : SOut) (f : MS) : SOut := match o with
  | .nx env h => f env h
  | o => o
def mSeq (a b : MS) : MS := fun env h => (a env h).andThen b
def mNext : MS := fun env h => .nx env h
def mBrk : MS := fun env h => .bk env h
def mCnt : MS := fun env h => .ct env h
def mRet (m : ME) : MS := fun env h => (m env h).st env fun v h1 => .rt v h1
def mRetN : MS := fun env h => .rt (.dat .none) h
def mDrop (m : ME) : MS := fun env h => (m env h).st env fun _ h1 => .nx env h1
def mIfS (c : Env → Hep → Out Bool) (a b : MS) : MS := fun env h => (c env h).st env fun k h1 => if k = true then a env h1 else b env h1
def mNever : MS := fun _ _ => .bad
section
variable {G : Gh} {W : WX} {X : Cx} {e a b c : Expr} {st : Stmt} {rest sa sb : List Stmt} {pos : Pos} {m ma mb : ME} {ms mr msa msb : MS} {tc : Env → Hep → Out Bool}
theorem ss_nil : JSs G W X [] mNext := PSs.to pss_nil fun E σ H r => by
  obtain ⟨ρ, env, h, S, w⟩ := r
  exact w.nx S
theorem s_pass : JS G W X (.Pass pos) mNext := PS.to ps_pass fun E σ H r => by
  obtain ⟨ρ, env, h, S, w⟩ := r
  exact w.nx S
theorem s_doc {x j p} : JS G W X (.Expr (.Constant (.str x) j p) pos) mNext := PS.to ps_doc fun E σ H r => by
  obtain ⟨ρ, env, h, S, w⟩ := r
  exact w.nx S
theorem s_brk : JS G W X (.Break pos) mBrk := PS.to ps_break fun E σ H r => by
  obtain ⟨ρ, env, h, S, w⟩ := r
  exact w ρ H σ .refl S
theorem s_cnt : JS G W X (.Continue pos) mCnt := PS.to ps_continue fun E σ H r => by
  obtain ⟨ρ, env, h, S, w⟩ := r
  exact w ρ H σ .refl S
theorem ss_cons (h1 : JS G W X st ms) (h2 : JSs G W X rest mr) : JSs G W X (st :: rest) (mSeq ms mr) := PSs.to (pss_cons h1 h2) fun E σ H r => by
  obtain ⟨ρ, env, h, S, w⟩ := r
  refine ⟨ρ, env, h, S, ?_⟩
  unfold mSeq SOut.andThen at w
  revert w
  cases ms env h with
  | nx env1 h1 => exact fun w ρ' H' σ' s' S' => ⟨ρ', env1, h1, S', Ws.step s' w⟩
  | rt v h1 => exact fun w => w
  | bk env1 h1 => exact fun w => w
  | ct env1 h1 => exact fun w => w
  | er e env1 h1 => exact fun w => w
  | bad => exact fun w => w
theorem ss_one (h1 : JS G W X st ms) : JSs G W X [st] ms := pss_one h1
theorem s_ret (he : JE G W X e m) : JS G W X (.Return (some e) pos) (mRet m) := PS.to (ps_ret he) fun E σ H r =>
  rS.seq (R := RV (wd G X)) (f := fun v env h1 => .rt v h1) r fun v b ρ1 H1 env h1 S1 r1 w1 => w1 ρ1 H1 b .refl S1.hp r1
theorem s_retN : JS G W X (.Return none pos) mRetN := PS.to ps_retN fun E σ H r => by
  obtain ⟨ρ, env, h, S, w⟩ := r
  exact w ρ H .non .refl S.hp rfl
theorem s_drop (he : JE G W X e m) (hs : swapsWith e none pos.line X.env = pure false := by rfl) : JS G W X (.Expr e pos) (mDrop m) := PS.to (ps_expr he hs) fun E σ H r =>
  rS.seq (R := RV (wd G X)) (f := fun v env h1 => .nx env h1) r fun v b ρ1 H1 env h1 S1 r1 w1 => w1.nx S1
theorem s_if (hc : JT G W X c tc) (ha : JSs G W X sa msa) (hb : JSs G W X sb msb) : JS G W X (.If c sa sb pos) (mIfS tc msa msb) := PS.to (ps_if hc ha hb) fun E σ H r => by
  refine rS.seq (R := RB) (f := fun k env h1 => if k = true then msa env h1 else msb env h1) r fun k d ρ1 H1 env h1 S1 r1 w1 => ?_
  cases r1
  cases k with
  | true => exact ⟨ρ1, env, h1, S1, w1⟩
  | false => exact ⟨ρ1, env, h1, S1, w1⟩
theorem s_never : JS G W X st mNever := PS.to ps_never fun E σ H r => by
  obtain ⟨ρ, env, h, S, w⟩ := r
  exact w.elim
theorem ss_never : JSs G W X rest mNever := PSs.to pss_never fun E σ H r => by
  obtain ⟨ρ, env, h, S, w⟩ := r
  exact w.elim
end

/-! ### targets -/
inductive Tgt where
  | nm (i : Nat)
  | tup (ts : List Tgt)
mutual
/-- the value is stored: names, tuples of targets -/
def asgT : Tgt → Val → Env → Option Env
  | .nm i, v, env => some (env.set i (some v))
  | .tup ts, v, env => match v with
    | .dat (.tuple ds) => asgTs ts ds env
    | _ => none
def asgTs : List Tgt → List PyData → Env → Option Env
  | [], [], env => some env
  | t :: ts, d :: ds, env => match asgT t (.dat d) env with
    | some env1 => asgTs ts ds env1
    | none => none
  | _, _, _ => none
end
mutual
def Tgt.ixs : Tgt → List Nat
  | .nm i => [i]
  | .tup ts => Tgt.ixsL ts
def Tgt.ixsL : List Tgt → List Nat
  | [] => []
  | t :: ts => t.ixs ++ Tgt.ixsL ts
end
/-- the names that a store reaches are the target's -/
def SetsIn (l : List Nat) (σ σ' : L2.St) : Prop := σ'.length = σ.length ∧ ∀ j, j ∉ l → σ'[j]? = σ[j]?
theorem SetsIn.refl {l σ} : SetsIn l σ σ := ⟨rfl, fun _ _ => rfl⟩
theorem SetsIn.trans {l l' σ σ1 σ2} (a : SetsIn l σ σ1) (b : SetsIn l' σ1 σ2) : SetsIn (l ++ l') σ σ2 :=
  ⟨b.1.trans a.1, fun j hj => (b.2 j fun z => hj (List.mem_append_right _ z)).trans (a.2 j fun z => hj (List.mem_append_left _ z))⟩
def rG (D : Wd) (tg : Tgt) : TG := fun v σ H Q => ∃ ρ env h d env', Sim D σ H ρ env h ∧ RepV D.K D.G H ρ d v ∧ asgT tg d env = some env' ∧ ∀ σ', SetsIn tg.ixs σ σ' → Sim D σ' H ρ env' h → Q σ' H
def rGs (D : Wd) (ts : List Tgt) : TGs := fun vs σ H Q => ∃ ρ env h ds env', Sim D σ H ρ env h ∧ Reps D.K H ρ ds vs ∧ asgTs ts ds env = some env' ∧ ∀ σ', SetsIn (Tgt.ixsL ts) σ σ' → Sim D σ' H ρ env' h → Q σ' H
def JG (G : Gh) (X : Cx) (e : Expr) (t : Tgt) : Prop := PG X e (rG (wd G X) t)
def JGs (G : Gh) (X : Cx) (e : List Expr) (t : List Tgt) : Prop := PGs X e (rGs (wd G X) t)
theorem PG.to {X : Cx} {e : Expr} {t t' : TG} (h : PG X e t) (hw : ∀ v σ H Q, t' v σ H Q → t v σ H Q) : PG X e t' := ⟨fun pins s σ H v u Q I r q => h.run pins s σ H v u Q I r (hw v σ H Q q)⟩
theorem PGs.to {X : Cx} {e : List Expr} {t t' : TGs} (h : PGs X e t) (hw : ∀ v σ H Q, t' v σ H Q → t v σ H Q) : PGs X e t' := ⟨fun pins s σ H v u Q I r q => h.run pins s σ H v u Q I r (hw v σ H Q q)⟩
theorem Sim.set {D : Wd} {σ H ρ env h d v} (S : Sim D σ H ρ env h) (i : Nat) (r : RepV D.K D.G H ρ d v) : Sim D (σ.set i (some v)) H ρ (env.set i (some d)) h := ⟨S.hp, S.env.set i r⟩
theorem setsIn_set {σ : L2.St} {i : Nat} {v : Option V} : SetsIn [i] σ (σ.set i v) := ⟨by simp, fun j hj => by
  rw [List.getElem?_set_ne]
  intro z
  exact hj (by simp [z])⟩
section
variable {G : Gh} {W : WX} {X : Cx} {e a b c : Expr} {es : List Expr} {st : Stmt} {pos : Pos} {m ma mb : ME} {tg : Tgt} {ts : List Tgt}
theorem g_name {i : Nat} {x : Str} (hN : X.N.Nodup) (hi : X.N[i]? = some x) (hx : Loc X.env.scope x) (hf : X.fn x = true ∨ X.env.scope.names.lookup x = some .local := by first | exact .inl rfl | exact .inr rfl | assumption) : JG G X (.Name x pos) (.nm i) := by
  refine PG.to (pg_name hN hi hx hf) fun v σ H Q r => ?_
  obtain ⟨ρ, env, h, d, env', S, r1, ea, q⟩ := r
  have ea : some (env.set i (some d)) = some env' := ea
  cases ea
  exact q _ setsIn_set (S.set i r1)
theorem gs_nil : JGs G X [] [] := by
  refine PGs.to pgs_nil fun v σ H Q r => ?_
  obtain ⟨ρ, env, h, ds, env', S, r1, ea, q⟩ := r
  cases ds with
  | nil =>
    cases ea
    exact ⟨r1, q σ .refl S⟩
  | cons d ds => cases ea
theorem gs_cons (h1 : JG G X e tg) (h2 : JGs G X es ts) (hs : (assignEach (e :: es) X.env).map (·.2) = assign e X.env :: (assignEach es X.env).map (·.2) := by rfl) : JGs G X (e :: es) (tg :: ts) := by
  refine PGs.to (pgs_cons h1 h2 hs) fun vs σ H Q r => ?_
  obtain ⟨ρ, env, h, ds, env', S, r1, ea, q⟩ := r
  cases ds with
  | nil => cases ea
  | cons d ds =>
    obtain ⟨v, vr, rfl, q1, q2⟩ := r1
    unfold asgTs at ea
    split at ea
    · rename_i env1 e1
      refine ⟨v, vr, rfl, ρ, env, h, .dat d, env1, S, q1, e1, fun σ' hs' S' => ?_⟩
      exact ⟨ρ, env1, h, ds, env', S', q2, ea, fun σ2 hs2 S2 => q σ2 (hs'.trans hs2) S2⟩
    · cases ea
theorem asgTs_len : ∀ {ts : List Tgt} {ds : List PyData} {env env' : Env}, asgTs ts ds env = some env' → ds.length = ts.length
  | [], [], _, _, _ => rfl
  | [], _ :: _, _, _, e => by cases e
  | _ :: _, [], _, _, e => by cases e
  | t :: ts, d :: ds, env, env', e => by
    unfold asgTs at e
    split at e
    · simp [asgTs_len e]
    · cases e
theorem g_tup {k : Nat} {n : Nat} (hc : X.calm = true) (h : JGs G X es ts) (hts : ts.length = n := by rfl) (hn : (assignEach es X.env).length = n := by rfl) (hst : (assignEach es X.env).findIdx? (·.1) = none := by rfl) : JG G X (.Tuple es k pos) (.tup ts) := by
  refine PG.to (pg_tup hc h hn hst) fun v σ H Q r => ?_
  obtain ⟨ρ, env, h, d, env', S, r1, ea, q⟩ := r
  unfold asgT at ea
  split at ea
  · rename_i ds
    obtain ⟨l, vs, rfl, hl, r2⟩ := r1
    exact ⟨l, vs, rfl, hl.sq, by rw [r2.len, asgTs_len ea, hts], ρ, env, h, ds, env', S, r2, ea, q⟩
  · cases ea
/-- target = value -/
def kAsg (tg : Tgt) (v : Val) (env : Env) (h : Hep) : SOut := match asgT tg v env with
  | some env1 => .nx env1 h
  | none => .bad
def mAsg (tg : Tgt) (m : ME) : MS := fun env h => (m env h).st env fun v h1 => kAsg tg v env h1
def mSet (i : Nat) (m : ME) : MS := fun env h => (m env h).st env fun v h1 => .nx (env.set i (some v)) h1
theorem s_asg {t : Expr} (he : JE G W X e m) (hg : JG G X t tg) (hs : swapsWithSole [t] e pos.line X.env = pure false := by rfl) (hw : swappedStores [t] e X.env = pure none := by rfl)
    (h1 : (assignEach [t] X.env).map (·.2) = [assign t X.env] := by rfl) : JS G W X (.Assign [t] e pos) (mAsg tg m) := by
  refine PS.to (ps_asg he hg hs hw h1) fun E σ H r => ?_
  refine rS.seq (R := RV (wd G X)) (f := fun v env h1 => kAsg tg v env h1) r fun v x ρ1 H1 env h1 S1 r1 w1 => ?_
  unfold kAsg at w1
  split at w1
  · rename_i env1 ea
    exact ⟨ρ1, env, h1, v, env1, S1, r1, ea, fun σ' _ S' => w1.nx S'⟩
  · exact w1.elim
theorem s_set {i : Nat} {x : Str} {p : Pos} (hN : X.N.Nodup) (hi : X.N[i]? = some x) (hx : Loc X.env.scope x) (he : JE G W X e m) (hs : swapsWith e (some (.Name x p)) pos.line X.env = pure false := by rfl) (hf : X.fn x = true ∨ X.env.scope.names.lookup x = some .local := by first | exact .inl rfl | exact .inr rfl | assumption) :
    JS G W X (.Assign [.Name x p] e pos) (mSet i m) := by
  refine PS.to (ps_set hN hi hx he hs hf) fun E σ H r => ?_
  refine rS.seq (R := RV (wd G X)) (f := fun v env h1 => .nx (env.set i (some v)) h1) r fun v x ρ1 H1 env h1 S1 r1 w1 => ?_
  exact w1.nx (S1.set i r1)
/-- a, b = x, y with plain local names -/
def kPar (i j : Nat) (vs : List Val) (env : Env) (h : Hep) : SOut := match vs with
  | [v, w] => .nx ((env.set i (some v)).set j (some w)) h
  | _ => .bad
def mPar (i j : Nat) (m : Env → Hep → Out (List Val)) : MS := fun env h => (m env h).st env fun vs h1 => kPar i j vs env h1
theorem s_par {i j : Nat} {x y : Str} {mp : Env → Hep → Out (List Val)} {px py pt : Pos} {kt k2 pt2} (hc : X.calm = true) (hN : X.N.Nodup) (hi : X.N[i]? = some x) (hj : X.N[j]? = some y) (hij : i ≠ j)
    (hx : X.env.scope.names.lookup x = some .local) (hy : X.env.scope.names.lookup y = some .local) (ha : JA G W X [a, b] mp)
    (hw : swappedStores [.Tuple [.Name x px, .Name y py] kt pt] (.Tuple [a, b] k2 pt2) X.env = pure (some [x, y]) := by rfl)
    (hs : swapsWithSole [.Tuple [.Name x px, .Name y py] kt pt] (.Tuple [a, b] k2 pt2) pos.line X.env = pure false := by rfl) :
    JS G W X (.Assign [.Tuple [.Name x px, .Name y py] kt pt] (.Tuple [a, b] k2 pt2) pos) (mPar i j mp) := by
  refine PS.to (ps_par hc hN hi hj hij hx hy ha hw hs) fun E σ H r => ?_
  refine rS.seq (R := RVs (wd G X)) (f := fun vs env h1 => kPar i j vs env h1) r fun vs us ρ1 H1 env h1 S1 r1 w1 => ?_
  unfold kPar at w1
  split at w1
  · cases r1 with
    | cons r1 r2 =>
      cases r2 with
      | cons r2 r3 =>
        cases r3
        exact ⟨_, _, rfl, w1.nx ((S1.set i r1).set j r2)⟩
  · exact w1.elim
/-- name op= e: by the plain operator, where both are no list -/
def kAug (i : Nat) (f : F2) (y : Val) (env : Env) (h : Hep) : SOut := match env[i]? with
  | some (some x) => (f x y h).st env fun z h1 => .nx (env.set i (some z)) h1
  | _ => .bad
def mAug (i : Nat) (f : F2) (m : ME) : MS := fun env h => (m env h).st env fun y h1 => kAug i f y env h1
end
end Vi
end Vi6_

section Vi7_
set_option Elab.async false
set_option linter.all false
set_option maxRecDepth 100000
namespace PySem
open Sem (wp)
/-! ### as PySem.WalksT, the tuple's own object told -/
structure WalksL (prog : Program) (w : World) (A : Around) (I : Addr) (fp wr : List Addr) (n : Nat) (Pt : Nat → Array Value → Prop) (St : Nat → Heap → Prop) (Mid : Nat → Addr → Heap → Prop) : Prop where
  sub : ∀ b ∈ wr, b ∈ fp
  frame : ∀ i h h', St i h → (∀ b ∈ fp, ∀ o, h.get? b = some o → h'.get? b = some o) → St i h'

  item : ∀ i (s : Shared) (Q : Option Value → Shared → Prop) (E : Value → Shared → Prop), i < n → St i s.heap →
    (∀ T vals h' tk, Pt i vals → s.heap.objs.size ≤ T → h'.get? T = some { cls := .type "tuple", data := .seq vals } → Mid i T h' → (∀ b o, b ∉ wr → s.heap.get? b = some o → h'.get? b = some o) → Q (some (.ref T)) { s with heap := h', toks := tk }) →
    wpAny (model prog w) A (pyNext (.ref I)) Q E s

  go : ∀ (elts : List Expr) (k : Nat) (pos : Pos) i T (s : Shared) (Q : Unit → Shared → Prop) (E : Value → Shared → Prop), Mid i T s.heap →
    (∀ h', St (i + 1) h' → (∀ b o, b ∉ wr → s.heap.get? b = some o → h'.get? b = some o) → Q () { s with heap := h' }) →
    wpAny (model prog w) A (letOwnedTupleGo (.Tuple elts k pos) (.ref I) (.ref T)) Q E s
  apart : ∀ i T h, Mid i T h → T ∉ wr
  done : ∀ (s : Shared) (Q : Option Value → Shared → Prop) (E : Value → Shared → Prop), St n s.heap →
    (∀ h' tk, (∀ b o, b ∉ wr → s.heap.get? b = some o → h'.get? b = some o) → Q none { s with heap := h', toks := tk }) → wpAny (model prog w) A (pyNext (.ref I)) Q E s
  self : ∀ i (s : Shared) (Q : Value → Shared → Prop) (E : Value → Shared → Prop), St i s.heap → Q (.ref I) s → wpAny (model prog w) A (pyIter (.ref I)) Q E s

theorem WalksL.enumFrom {prog : Program} {w : World} {A : Around} {it : Addr} {fp : List Addr} {n : Nat} {P : Nat → Value → Prop} {St : Nat → Heap → Prop} (k₀ : Int) (D : Draws prog w A.in1 it fp n P St) (e : Addr) (hei : e ≠ it) (hef : e ∉ fp) (hif : it ∈ fp) :
    WalksL prog w A e (e :: fp) [e, it] n
      (fun i vals => ∃ t x, P i x ∧ vals = #[.int (k₀ + (i : Int)) t, x])
      (fun i h => (∃ old, IsEnum h e it (k₀ + (i : Int)) old) ∧ St i h)
      (fun i T h => (∃ x, IsEnumOut h e it (k₀ + (i : Int) + 1) x T) ∧ St (i + 1) h ∧ T ≠ e ∧ T ≠ it) where
  sub := fun b hb => by
    rcases List.mem_cons.mp hb with rfl | hb
    · exact List.mem_cons_self ..
    · rw [List.mem_singleton.mp hb]; exact List.mem_cons_of_mem _ hif
  frame := fun i h h' hst hk => by
    obtain ⟨⟨old, he⟩, hs⟩ := hst
    exact ⟨⟨old, hk e (by simp) _ he⟩, D.frame _ _ _ hs fun b hb o x => hk b (List.mem_cons_of_mem _ hb) o x⟩
  item := fun i s Q E hi hst hQ => by
    obtain ⟨⟨old, he⟩, hs⟩ := hst
    refine wpAny_pyNext_enum_itemC D he hs hi hei hef fun x h' tk hP ho hs' hT hsz hk => ?_
    have helt : e < s.heap.objs.size := Heap.lt_size he
    have hilt : it < s.heap.objs.size := by obtain ⟨_, y⟩ := D.live _ _ hs; exact Heap.lt_size y
    exact hQ s.heap.objs.size #[.int (k₀ + (i : Int)) tk, x] h' (tk + 1) ⟨_, _, hP, rfl⟩ (Nat.le_refl _) hT
      ⟨⟨_, ho⟩, hs', Nat.ne_of_gt helt, Nat.ne_of_gt hilt⟩
      fun b o hb y => hk b o (fun e' => hb (by simp [e'])) (fun e' => hb (by simp [e'])) y
  go := fun elts k pos i T s Q E hm hQ => by
    obtain ⟨⟨x, ho⟩, hs, hTe, hTi⟩ := hm
    refine wpAny_letOwnedTupleGo_enum ho fun h' he' hs' => hQ h' ⟨⟨x, ?_⟩, D.frame _ _ _ hs fun b hb o y => (hs'.2 b fun q => hef (q ▸ hb)).trans y⟩ fun b o hb y => ?_
    · have e1 : k₀ + ((i + 1 : Nat) : Int) = k₀ + (i : Int) + 1 := by omega
      rw [e1]
      exact he'
    · exact (hs'.2 b fun e' => hb (by simp [e'])).trans y
  apart := fun i T h hm hT => by
    obtain ⟨_, _, hTe, hTi⟩ := hm
    rcases List.mem_cons.mp hT with rfl | hT
    · exact hTe rfl
    · exact hTi (List.mem_singleton.mp hT)
  done := fun s Q E hst hQ => by
    obtain ⟨⟨old, he⟩, hs⟩ := hst
    exact wpAny_pyNext_enum_endD D he hs fun h' hx => hQ h' s.toks fun b o hb y => hx b o (fun e' => hb (by simp [e'])) y
  self := fun i s Q E hst hQ => by
    obtain ⟨⟨old, he⟩, _⟩ := hst
    exact wpAny_pyIter_enum he hQ



section
variable {prog : Program} {w : World} {A : Around} {E : Value → Shared → Prop} {s : Shared} {z TI TO i1 i2 : Addr} {fp1 fp2 : List Addr} {n1 n2 i : Nat} {P1 P2 : Nat → Value → Prop} {St1 St2 : Nat → Heap → Prop} {a1 a2 : Value}
theorem WalksL.zipD2 (S : ZipSep2 z TI TO i1 i2 fp1 fp2) (D1 : Draws prog w A.in1 i1 fp1 n1 P1 St1) (D2 : Draws prog w A.in1 i2 fp2 n2 P2 St2) :
    WalksL prog w A z (z :: TI :: TO :: (fp1 ++ fp2)) [z, TO, i1, i2] (min n1 n2)
      (fun i vals => ∃ x1 x2, P1 i x1 ∧ P2 i x2 ∧ vals = #[x1, x2])
      (fun i h => IsZip h z TI TO .none ∧ IsTupOf2 h TI (.ref i1) (.ref i2) ∧ (∃ a1 a2, IsTupOf2 h TO a1 a2) ∧ St1 i h ∧ St2 i h)
      (fun i T h => IsZip h z TI TO (rawInt T) ∧ IsTupOf2 h TI (.ref i1) (.ref i2) ∧ (∃ a1 a2, IsTupOf2 h TO a1 a2) ∧ St1 (i + 1) h ∧ St2 (i + 1) h ∧ T ≠ z ∧ T ≠ TO ∧ T ≠ i1 ∧ T ≠ i2) where
  sub := fun c hc => by
    have hc' : c = z ∨ c = TO ∨ c = i1 ∨ c = i2 := by simpa using hc
    rcases hc' with rfl | rfl | rfl | rfl
    · exact List.mem_cons_self ..
    · exact List.mem_cons_of_mem _ (List.mem_cons_of_mem _ (List.mem_cons_self ..))
    · exact List.mem_cons_of_mem _ (List.mem_cons_of_mem _ (List.mem_cons_of_mem _ (List.mem_append_left _ S.mem1)))
    · exact List.mem_cons_of_mem _ (List.mem_cons_of_mem _ (List.mem_cons_of_mem _ (List.mem_append_right _ S.mem2)))
  frame := fun i h h' hst hk => by
    obtain ⟨hz, hTI, ⟨a1, a2, hTO⟩, st1, st2⟩ := hst
    exact ⟨hk z (List.mem_cons_self ..) _ hz, hk TI (List.mem_cons_of_mem _ (List.mem_cons_self ..)) _ hTI, ⟨a1, a2, hk TO (List.mem_cons_of_mem _ (List.mem_cons_of_mem _ (List.mem_cons_self ..))) _ hTO⟩,
      D1.frame _ _ _ st1 fun b hb o e => hk b (List.mem_cons_of_mem _ (List.mem_cons_of_mem _ (List.mem_cons_of_mem _ (List.mem_append_left _ hb)))) o e, D2.frame _ _ _ st2 fun b hb o e => hk b (List.mem_cons_of_mem _ (List.mem_cons_of_mem _ (List.mem_cons_of_mem _ (List.mem_append_right _ hb)))) o e⟩
  item := fun i s Q E hi hst hQ => by
    obtain ⟨hz, hTI, ⟨a1, a2, hTO⟩, st1, st2⟩ := hst
    have hi1 : i < n1 := by omega
    have hi2 : i < n2 := by omega
    refine wpAny_pyNext_zipD2_item S D1 D2 hz hTI hTO st1 st2 hi1 hi2 fun x1 x2 h' tk y1 y2 b1 b2 d1 d2 b5 b6 hk => ?_
    have lt : ∀ {c o}, s.heap.get? c = some o → s.heap.objs.size ≠ c := fun e => Nat.ne_of_gt (Heap.lt_size e)
    have l1 : s.heap.objs.size ≠ i1 := by obtain ⟨_, e⟩ := D1.live _ _ st1; exact lt e
    have l2 : s.heap.objs.size ≠ i2 := by obtain ⟨_, e⟩ := D2.live _ _ st2; exact lt e
    exact hQ s.heap.objs.size #[x1, x2] h' tk ⟨x1, x2, y1, y2, rfl⟩ (Nat.le_refl _) b5
      ⟨b1, hk _ _ S.TIz S.TITO S.TIi1 S.TIi2 hTI, ⟨_, _, b2⟩, d1, d2, lt hz, lt hTO, l1, l2⟩
      fun c o hc e => hk c o (fun x => hc (by simp [x])) (fun x => hc (by simp [x])) (fun x => hc (by simp [x])) (fun x => hc (by simp [x])) e
  go := fun elts k pos i T s Q E hm hQ => by
    obtain ⟨hz, hTI, ⟨a1, a2, hTO⟩, st1, st2, _⟩ := hm
    refine wpAny_letOwnedTupleGo_zip hz fun h' hz' hs' => hQ h' ⟨hz', hs'.extBut _ _ S.TIz hTI, ⟨a1, a2, hs'.extBut _ _ S.TOz hTO⟩, D1.over st1 hs' S.zf1, D2.over st2 hs' S.zf2⟩ fun c o hc e => hs'.extBut _ _ (fun x => hc (by simp [x])) e
  apart := fun i T h hm hT => by
    obtain ⟨_, _, _, _, _, tz, tT, t1, t2⟩ := hm
    have hT' : T = z ∨ T = TO ∨ T = i1 ∨ T = i2 := by simpa using hT
    rcases hT' with e | e | e | e
    · exact tz e
    · exact tT e
    · exact t1 e
    · exact t2 e
  done := fun s Q E hst hQ => by
    obtain ⟨hz, hTI, ⟨a1, a2, hTO⟩, st1, st2⟩ := hst
    exact wpAny_pyNext_zipD2_end S D1 D2 hz hTI hTO st1 st2 (by omega) (by omega) (by omega) fun h' tk hk => hQ h' tk fun c o hc e =>
      hk c o (fun x => hc (by simp [x])) (fun x => hc (by simp [x])) (fun x => hc (by simp [x])) (fun x => hc (by simp [x])) e
  self := fun i s Q E hst hQ => wpAny_pyIter_zip hst.1 hQ
end
end PySem
namespace Vi
open PySem PySem.Spec PyProof.Rows L2

/-! ### what is walked: a list, a tuple, a text -/
inductive DK where
  | lst (a : Addr)
  | tup (a : Addr)
  | txt (x : Str)
def DK.val : DK → V
  | .lst a => .ref a
  | .tup a => .ref a
  | .txt x => .str x
def chars (x : Str) : List V := x.cps.toList.map fun c => .str ⟨#[c]⟩
def DK.rd (K : PySem.W.Frag) (H : Hp) : DK → List V → Prop
  | .lst a, xs => SqL K H a xs
  | .tup a, xs => SqT K H a xs
  | .txt x, xs => xs = chars x
def DK.si : DK → Addr → Nat → Heap → Prop
  | .lst a, it, i, h => h.IsListIter it a i
  | .tup a, it, i, h => h.IsTupleIter it a i
  | .txt x, it, i, h => ∃ t, h.IsStrIter it (strIterType x) x t i
theorem DK.rd_inj {X : Cx} {pins σ H s} (I : Inv X pins σ H s) {k : DK} {xs ys : List V} (a : k.rd X.K H xs) (b : k.rd X.K H ys) : xs = ys := by
  cases k with
  | lst l => exact I.list_inj a b
  | tup l => exact I.tuple_inj a b
  | txt x => exact Eq.trans a (Eq.symm b)
theorem strIterType_or (x : Str) : strIterType x = "str_ascii_iterator" ∨ strIterType x = "str_iterator" := by
  unfold strIterType
  split
  · exact .inl rfl
  · exact .inr rfl
theorem DK.si_obj {k : DK} {it i h} (st : k.si it i h) : ∃ o, h.get? it = some o ∧ ∃ fs, o.data = .fields fs := by
  cases k with
  | lst a => obtain ⟨o, e, c, d⟩ := st; exact ⟨o, e, _, d⟩
  | tup a => obtain ⟨o, e, c, d⟩ := st; exact ⟨o, e, _, d⟩
  | txt x => obtain ⟨t, o, e, c, d⟩ := st; exact ⟨o, e, _, d⟩
theorem DK.si_keep {k : DK} {it i h h'} (st : k.si it i h) (hk : ∀ o, h.get? it = some o → h'.get? it = some o) : k.si it i h' := by
  cases k with
  | lst a => exact st.at fun o e => hk o e
  | tup a => exact st.at fun o e => hk o e
  | txt x => obtain ⟨t, o, e, r⟩ := st; exact ⟨t, o, hk o e, r⟩
/-- what its iterator gives out -/
structure Drw (X : Cx) (k : DK) (it : Addr) (i : Nat) (h : Heap) (xs : List V) (fp : List Addr) (P : Nat → Value → Prop) (St : Nat → Heap → Prop) : Prop where
  draws : Draws X.prog X.w X.A.in1 it fp xs.length P St
  st : St i h
  mem : it ∈ fp
  fps : ∀ b ∈ fp, b = it ∨ ∃ (o : Obj) (its : Array Value) (n : Nat), h.get? b = some o ∧ o.data = .seq its n
  rel : ∀ j x, P j x → ∃ y, xs[j]? = some y ∧ RelV y x
  back : ∀ j h', St j h' → k.si it j h'
theorem DK.drw {X : Cx} {pins σ H s} (I : Inv X pins σ H s) (hc : X.calm = true) {k : DK} {xs : List V} {it : Addr} {i : Nat} (rd : k.rd X.K H xs) (st : k.si it i s.heap) : ∃ fp P St, Drw X k it i s.heap xs fp P St := by
  have hh : X.A.in1.handled = none := I.ok.hd hc
  obtain ⟨o', eo, fs, df⟩ := DK.si_obj st
  cases k with
  | lst a =>
    obtain ⟨its, rv, p, hz⟩ := I.list rd
    obtain ⟨o, n, e, c, z, d⟩ := id p
    have ne : a ≠ it := fun z => by rw [z, eo] at e; cases e; rw [df] at d; cases d
    have hl := rv.length
    refine ⟨[it, a], fun i v => its.toArray[i]? = some v, fun i h => h.IsListIter it a i ∧ h.IsList a its.toArray, ?_, ⟨st, p.isList⟩, by simp, fun b hb => ?_, fun j x hx => ?_, fun j h' s' => s'.1⟩
    · have q := Draws.list (prog := X.prog) (w := X.w) hh it a ne its.toArray
      rw [List.size_toArray, ← hl] at q
      exact q
    · have hb' : b = it ∨ b = a := by simpa using hb
      rcases hb' with q | q
      · exact .inl q
      · rw [q]; exact .inr ⟨o, _, n, e, d⟩
    · have hj : j < xs.length := by
        have : (its.toArray[j]?).isSome := by rw [hx]; rfl
        simp at this
        omega
      obtain ⟨u, hu, ru⟩ := rv.get (List.getElem?_eq_getElem hj)
      have hx' : its.toArray[j]? = some x := hx
      have : its[j]? = some x := by simpa using hx'
      rw [hu] at this
      cases this
      exact ⟨_, List.getElem?_eq_getElem hj, ru⟩
  | tup a =>
    obtain ⟨its, rv, p, hz⟩ := I.tuple rd
    obtain ⟨o, e, c, n, d⟩ := id p
    have ne : a ≠ it := fun z => by rw [z, eo] at e; cases e; rw [df] at d; cases d
    have hl := rv.length
    refine ⟨[it, a], fun i v => its.toArray[i]? = some v, fun i h => h.IsTupleIter it a i ∧ h.IsTuple a its.toArray, ?_, ⟨st, p⟩, by simp, fun b hb => ?_, fun j x hx => ?_, fun j h' s' => s'.1⟩
    · have q := Draws.tuple (prog := X.prog) (w := X.w) hh it a ne its.toArray
      rw [List.size_toArray, ← hl] at q
      exact q
    · have hb' : b = it ∨ b = a := by simpa using hb
      rcases hb' with q | q
      · exact .inl q
      · rw [q]; exact .inr ⟨o, _, n, e, d⟩
    · have hj : j < xs.length := by
        have : (its.toArray[j]?).isSome := by rw [hx]; rfl
        simp at this
        omega
      obtain ⟨u, hu, ru⟩ := rv.get (List.getElem?_eq_getElem hj)
      have hx' : its.toArray[j]? = some x := hx
      have : its[j]? = some x := by simpa using hx'
      rw [hu] at this
      cases this
      exact ⟨_, List.getElem?_eq_getElem hj, ru⟩
  | txt x =>
    obtain ⟨t, st⟩ := st
    have rd : xs = chars x := rd
    have hl : xs.length = x.cps.size := by rw [rd]; simp [chars]
    refine ⟨[it], fun i v => ∃ c u, x.cps[i]? = some c ∧ v = .str ⟨#[c]⟩ u, fun i h => h.IsStrIter it (strIterType x) x t i, ?_, st, by simp, fun b hb => .inl (by simpa using hb), fun j v hx => ?_, fun j h' s' => ⟨t, s'⟩⟩
    · rw [hl]
      exact Draws.text hh it x t
    · obtain ⟨c, u, hx, rfl⟩ := hx
      refine ⟨.str ⟨#[c]⟩, ?_, ⟨u, rfl⟩⟩
      rw [rd, chars, List.getElem?_map]
      have : x.cps.toList[j]? = some c := by simpa using hx
      rw [this]
      rfl

/-! ### plain walks -/
def ItD (K : PySem.W.Frag) (k : DK) : It :=
  ⟨fun i H => ∃ xs x, k.rd K H xs ∧ xs[i]? = some x, fun i H x H' => H' = H ∧ ∀ xs, k.rd K H xs → xs[i]? = some x, fun i H => ∃ xs, k.rd K H xs ∧ xs.length = i⟩
theorem Turn.conv {P w K tg J J' fp it tn} (T : Turn P w K tg J fp it tn) (hg : ∀ i H, J'.go i H → J.go i H) (hy : ∀ i H x H', J'.go i H → J.yld i H x H' → J'.yld i H x H') (hs : ∀ i H, J'.stop i H → J.stop i H) : Turn P w K tg J' fp it tn where
  mem := T.mem
  obj := T.obj
  keep := T.keep
  item := fun X h1 h2 h3 hc i pins s σ H E I hf st go => wpAny_mono (T.item X h1 h2 h3 hc i pins s σ H E I hf st (hg i H go)) (fun r s1 ⟨u, hr, h⟩ => ⟨u, hr, wpAny_mono h (fun _ s2 ⟨x, H', a, b, c, d⟩ => ⟨x, H', a, b, hy i H x H' go c, d⟩) fun _ _ z => z⟩) fun _ _ z => z
  done := fun X h1 h2 h3 hc i pins s σ H E I hf st hs' => T.done X h1 h2 h3 hc i pins s σ H E I hf st (hs i H hs')
  self := T.self
theorem turn_dk {P w K tg} (k : DK) (it : Addr) : ∀ s : Shared, k.si it 0 s.heap → ∃ tn, Turn P w K tg (ItD K k) [it] it tn ∧ tn 0 s.heap := by
  intro s st
  cases k with
  | lst a => exact ⟨_, Turn.conv (turn_list a it) (fun i H h => h) (fun i H x H' _ h => h) (fun i H ⟨xs, h1, h2⟩ => ⟨xs, h1, Nat.le_of_eq h2⟩), st⟩
  | tup a => exact ⟨_, Turn.conv (turn_tuple a it) (fun i H h => h) (fun i H x H' _ h => h) (fun i H ⟨xs, h1, h2⟩ => ⟨xs, h1, Nat.le_of_eq h2⟩), st⟩
  | txt x =>
    obtain ⟨t, st⟩ := st
    refine ⟨_, Turn.conv (turn_str it x t _ (strIterType_or x)) (fun i H ⟨xs, v, h1, h2⟩ => ?_) (fun i H v H' _ ⟨h1, c, h2, h3⟩ => ⟨h1, fun xs hx => ?_⟩) (fun i H ⟨xs, h1, h2⟩ => ?_), st⟩
    · have h1 : xs = chars x := h1
      have : i < xs.length := (List.getElem?_eq_some_iff.mp h2).1
      rw [h1] at this
      show i < x.cps.size
      simpa [chars] using this
    · have hx : xs = chars x := hx
      rw [hx, h3, chars, List.getElem?_map]
      have : x.cps.toList[i]? = some c := by simpa using h2
      rw [this]
      rfl
    · have h1 : xs = chars x := h1
      rw [h1] at h2
      show x.cps.size ≤ i
      rw [← h2]
      simp [chars]
/-- its iterator is made -/
theorem DK.begin_ {X : Cx} {pins σ H s} (I : Inv X pins σ H s) {k : DK} {xs : List V} (rd : k.rd X.K H xs) {u : Value} (r : RelV k.val u) : ∃ (o : Obj) (Hs : Heap → Prop), Begins u o Hs ∧ Hs s.heap ∧ (∀ it h, h.get? it = some o → k.si it 0 h) := by
  cases k with
  | lst a =>
    obtain ⟨its, rv, p, hz⟩ := I.list rd
    cases r
    exact ⟨_, _, begins_list a its.toArray, p.isList, fun it h e => ⟨_, e, rfl, rfl⟩⟩
  | tup a =>
    obtain ⟨its, rv, p, hz⟩ := I.tuple rd
    cases r
    exact ⟨_, _, begins_tuple a its.toArray, p, fun it h e => ⟨_, e, rfl, rfl⟩⟩
  | txt x =>
    obtain ⟨t, rfl⟩ := r
    exact ⟨_, _, begins_text x t, trivial, fun it h e => ⟨t, _, e, rfl, rfl⟩⟩
theorem pi_dk {X : Cx} {tg e : Expr} {te : TE} (he : PE X e te) : PI X tg e (fun σ H R => te σ H fun v H1 => ∃ k xs, v = DK.val k ∧ k.rd X.K H1 xs ∧ R (ItD X.K k) H1) := by
  refine ⟨fun pins s σ H R I h => ?_⟩
  refine thn (he.run pins s σ H _ I h) fun u s1 ⟨y, H1, I1, r1, k, xs, ex, rd, q⟩ => ?_
  subst ex
  obtain ⟨o, Hs, B, hs, si⟩ := DK.begin_ I1 rd r1
  refine B.iter _ _ _ _ _ _ hs ?_
  have st : k.si s1.heap.objs.size 0 (s1.heap.push o) := si _ _ (Heap.get?_push_size _ B.free)
  obtain ⟨tn, T, st'⟩ := turn_dk (P := X.prog) (w := X.w) (K := X.K) (tg := tg) k s1.heap.objs.size { s1 with heap := s1.heap.push o } st
  refine ⟨s1.heap.objs.size, [s1.heap.objs.size], tn, _, H1, rfl, I1.kept (t' := s1.toks) fun b o e => Heap.get?_push_of_some _ e, T, st', fun b hb => ?_, q⟩
  have e : b = s1.heap.objs.size := by simpa using hb
  subst e
  exact I1.fpOk (Nat.le_refl _) (I1.hok.fresh (Nat.le_refl _))

/-! ### tuples that are given out new -/
theorem walksT_item {X : Cx} {pins σ H s} {E : Value → Shared → Prop} (I : Inv X pins σ H s) {e : Addr} {fp wr ch : List Addr} {n i : Nat} {Pt : Nat → Array Value → Prop} {St : Nat → Heap → Prop} {Mid : Nat → Addr → Heap → Prop}
    (W : WalksL X.prog X.w X.A e fp wr n Pt St Mid) (hi : i < n) (st : St i s.heap) (hw : ∀ b ∈ wr, b ∈ ch) (hf : ∀ b ∈ ch, FpOk X pins H b) (hobj : ∀ b ∈ ch, ∃ o, s.heap.get? b = some o)
    {Y : List V → Prop} (hP : ∀ vals, Pt i vals → ∃ ys, Vals ys vals.toList ∧ ys.length ≤ sizeLine ∧ Y ys) {elts : List Expr} {kk : Nat} {tpos : Pos} :
    wpAny (model X.prog X.w) X.A (pyNext (.ref e)) (fun r s1 => ∃ u, r = some u ∧ wpAny (model X.prog X.w) X.A (letOwnedTupleGo (.Tuple elts kk tpos) (.ref e) u) (fun _ s2 =>
      ∃ T o ys, u = .ref T ∧ H T = none ∧ o.dict = none ∧ Y ys ∧ Inv X pins σ (upd H T (.frz o (.tup ys))) s2 ∧ St (i + 1) s2.heap ∧ (∀ b o, b ∉ wr → s.heap.get? b = some o → s2.heap.get? b = some o) ∧ ∀ b ∈ ch, (upd H T (.frz o (.tup ys))) b = none) E s1) E s := by
  refine wpAny_with_toks (n := s.toks) (Nat.le_refl _) (W.item i s _ _ hi st fun T vals h' tk hp hnew hT hm hk htk => ⟨.ref T, rfl, W.go elts kk tpos i T { s with heap := h', toks := tk } _ _ hm fun h2 st2 hk2 => ?_⟩)
  obtain ⟨ys, rv, hz, hy⟩ := hP vals hp
  have hT2 := hk2 T _ (W.apart i T h' hm) hT
  have hk3 : ∀ b o, b ∉ wr → s.heap.get? b = some o → h2.get? b = some o := fun b o hb q => hk2 b o hb (hk b o hb q)
  have eT : (⟨.type "tuple", none, .seq vals, #[]⟩ : Obj) = { cls := .type "tuple", data := .seq vals.toList.toArray } := rfl
  have new : ObjOk X.prog X.w (upd H T (.frz { cls := .type "tuple", data := .seq vals.toList.toArray } (.tup ys))) h2 T (.frz { cls := .type "tuple", data := .seq vals.toList.toArray } (.tup ys)) := ⟨hT2, hz, vals.toList, rv, ⟨_, hT2, rfl, _, rfl⟩⟩
  refine ⟨T, _, ys, rfl, I.hok.fresh hnew, rfl, hy, I.turnedNew (ch := ch) (fun b o hb q => hk3 b o (fun z => hb (hw b z)) q) hf hnew new, st2, hk3, fun b hb => ?_⟩
  obtain ⟨o, eo⟩ := hobj b hb
  rw [upd_ne (Nat.ne_of_lt (Nat.lt_of_lt_of_le (Heap.lt_size eo) hnew))]
  exact (hf b hb).1
theorem walksT_done {X : Cx} {pins σ H s} {E : Value → Shared → Prop} (I : Inv X pins σ H s) {e : Addr} {fp wr ch : List Addr} {n : Nat} {Pt : Nat → Array Value → Prop} {St : Nat → Heap → Prop} {Mid : Nat → Addr → Heap → Prop}
    (W : WalksL X.prog X.w X.A e fp wr n Pt St Mid) (st : St n s.heap) (hw : ∀ b ∈ wr, b ∈ ch) (hf : ∀ b ∈ ch, FpOk X pins H b) :
    wpAny (model X.prog X.w) X.A (pyNext (.ref e)) (fun r s1 => r = none ∧ Inv X pins σ H s1) E s :=
  W.done s _ E st fun h' tk hk => ⟨rfl, I.turnedL (ch := ch) (fun b o hb q => hk b o (fun z => hb (hw b z)) q) hf⟩

/-! ### enumerate -/
def ItEn (K : PySem.W.Frag) (k : DK) (k0 : Int) : It :=
  ⟨fun i H => ∃ (xs : List V) (x : V), k.rd K H xs ∧ xs[i]? = some x, fun i H v H' => ∃ (T : Addr) (o : Obj) (x : V), v = .ref T ∧ H T = none ∧ o.dict = none ∧ H' = upd H T (.frz o (.tup [.int (k0 + (i : Int)), x])) ∧ ∀ xs, k.rd K H xs → xs[i]? = some x, fun i H => ∃ xs : List V, k.rd K H xs ∧ xs.length = i⟩
theorem Drw.apart {X : Cx} {k : DK} {it i h xs fp P St} (D : Drw X k it i h xs fp P St) {e : Addr} (hne : e ≠ it) (he : ∃ o fs, h.get? e = some o ∧ o.data = .fields fs) : e ∉ fp := fun hm => by
  rcases D.fps e hm with q | ⟨o, its, n, e1, e2⟩
  · exact hne q
  · obtain ⟨o', fs, e3, e4⟩ := he
    rw [e1] at e3
    cases e3
    rw [e2] at e4
    cases e4
theorem turn_en {P : Program} {w : World} {K : PySem.W.Frag} {elts : List Expr} {kk : Nat} {tpos : Pos} (k : DK) (k0 : Int) (e it : Addr) :
    Turn P w K (.Tuple elts kk tpos) (ItEn K k k0) [e, it] e (fun i h => (∃ old, IsEnum h e it (k0 + (i : Int)) old) ∧ k.si it i h ∧ e ≠ it) where
  mem := by simp
  obj := fun i h st b hb => by
    obtain ⟨⟨old, he⟩, hs, _⟩ := st
    obtain ⟨o, ho, fs, hd⟩ := DK.si_obj hs
    have e' : b = e ∨ b = it := by simpa using hb
    rcases e' with z | z
    · rw [z]; exact ⟨_, he, fun v q => nomatch q⟩
    · rw [z]; exact ⟨o, ho, fun v q => by rw [hd] at q; cases q⟩
  keep := fun i h h' st hk => let ⟨⟨old, he⟩, hi, hne⟩ := st; ⟨⟨old, hk e (by simp) _ he⟩, DK.si_keep hi fun o q => hk it (by simp) o q, hne⟩
  item := by
    intro X hP hw hK hc i pins s σ H E I hf st hg
    subst hP hw hK
    obtain ⟨⟨old, he⟩, hs, hne⟩ := st
    obtain ⟨xs, x, rd, hx⟩ := hg
    obtain ⟨fp, P, St, D⟩ := DK.drw I hc rd hs
    have hef : e ∉ fp := D.apart hne ⟨_, _, he, rfl⟩
    have W := WalksL.enumFrom k0 D.draws e hne hef D.mem
    have hlt : i < xs.length := (List.getElem?_eq_some_iff.mp hx).1
    refine wpAny_mono (walksT_item (ch := [e, it]) (E := E) I W hlt ⟨⟨old, he⟩, D.st⟩ (fun b hb => hb) hf (fun b hb => ?_) (Y := fun ys => ys = [.int (k0 + (i : Int)), x]) (fun vals hv => ?_) (elts := elts) (kk := kk) (tpos := tpos)) (fun r s1 ⟨u, hr, h1⟩ => ⟨u, hr, wpAny_mono h1 (fun _ s2 h2 => ?_) fun _ _ z => z⟩) fun _ _ z => z
    · have e' : b = e ∨ b = it := by simpa using hb
      obtain ⟨o, ho, _⟩ := DK.si_obj hs
      rcases e' with z | z
      · rw [z]; exact ⟨_, he⟩
      · rw [z]; exact ⟨o, ho⟩
    · obtain ⟨t, x', hx', rfl⟩ := hv
      obtain ⟨y, hy, ry⟩ := D.rel i x' hx'
      rw [hx] at hy
      cases hy
      exact ⟨[.int (k0 + (i : Int)), x], .cons ⟨t, rfl⟩ (.cons ry .nil), by show 2 ≤ sizeLine; decide, rfl⟩
    · obtain ⟨T, o, ys, rfl, hT, hod, rfl, I2, st2, hk2, hn⟩ := h2
      refine ⟨.ref T, _, I2, rfl, ⟨T, o, x, rfl, hT, hod, rfl, fun ys hy => by rw [DK.rd_inj I hy rd]; exact hx⟩, ⟨?_, D.back _ _ st2.2, hne⟩, hn⟩
      obtain ⟨old', q⟩ := st2.1
      exact ⟨old', q⟩
  done := by
    intro X hP hw hK hc i pins s σ H E I hf st hg
    subst hP hw hK
    obtain ⟨⟨old, he⟩, hs, hne⟩ := st
    obtain ⟨xs, rd, hx⟩ := hg
    obtain ⟨fp, P, St, D⟩ := DK.drw I hc rd hs
    have hef : e ∉ fp := D.apart hne ⟨_, _, he, rfl⟩
    have W := WalksL.enumFrom k0 D.draws e hne hef D.mem
    subst hx
    exact walksT_done (ch := [e, it]) I W ⟨⟨old, he⟩, D.st⟩ (fun b hb => hb) hf
  self := fun A i s Q E st h => let ⟨⟨_, he⟩, _⟩ := st; wpAny_pyIter_enum he h
theorem en_fresh {X : Cx} {pins σ H s} (I : Inv X pins σ H s) : ∀ b ∈ [s.heap.objs.size + 1, s.heap.objs.size], FpOk X pins H b := fun b hb => by
  have e' : b = s.heap.objs.size + 1 ∨ b = s.heap.objs.size := by simpa using hb
  have hle : s.heap.objs.size ≤ b := by
    rcases e' with z | z
    · rw [z]; exact Nat.le_add_right _ _
    · rw [z]; exact Nat.le_refl _
  exact I.fpOk hle (I.hok.fresh hle)
set_option maxHeartbeats 1000000 in
theorem meets_enum1 {v : Value} {o : Obj} {H : Heap → Prop} (B : Begins v o H) :
    Meets (Builtin.«enumerate.__new__» ⟨[.type "enumerate", v], []⟩) (fun _ R s => H s.heap ∧
      R (.ok (.ret (.ref (s.heap.push o).objs.size))) { s with heap := (s.heap.push o).push { cls := .type "enumerate", data := .fields #[.none, .bool false, .ref s.heap.objs.size, rawInt 0, .none, .none] } }) :=
  .of_wp fun prog w A R s h => by
    obtain ⟨hp, g, d, tk, os⟩ := s; obtain ⟨h1, h⟩ := h
    have hsub := sub_enumerate
    have q1 : ∀ {A' : Around} {E : Value → Shared → Prop} {Q : Value → Shared → Prop}, Q (.ref hp.objs.size) ⟨hp.push o, g, d, tk, os⟩ → wpAny (model prog w) A' (pyIter v) Q E ⟨hp, g, d, tk, os⟩ :=
      fun q => B.iter prog w _ _ ⟨hp, g, d, tk, os⟩ _ h1 q
    wp_walk using q1
    refine wpAny_stack_any fun st => wpAny_pure ?_
    split
    · rename_i c _ _ _ _ _
      cases (c == Value.type "enumerate")
      · wp_walk using q1
        exact ⟨_, rfl, h⟩
      · wp_walk using q1
        exact ⟨_, rfl, h⟩
    · wp_walk using q1
      exact ⟨_, rfl, h⟩
theorem enum1_begins {prog : Program} {w : World} {A : Around} {E : Value → Shared → Prop} {s : Shared} {v : Value} {o : Obj} {H : Heap → Prop} {Q : Value → Shared → Prop} (B : Begins v o H) (h1 : H s.heap)
    (h : ∀ h', IsEnum h' (s.heap.objs.size + 1) s.heap.objs.size 0 .none → h'.get? s.heap.objs.size = some o → h'.objs.size = s.heap.objs.size + 2 →
      (∀ b o, s.heap.get? b = some o → h'.get? b = some o) → Q (.ref (s.heap.objs.size + 1)) { s with heap := h' }) :
    wpAny (model prog w) A (call (.type "enumerate") [v]) Q E s := by
  refine callType_new F.called_enumerate (by decide) (F.typeCall_enumerate_1 _) (F.newCall_enumerate_1 _) (fun obj => F.args_object_init_2 obj _) F.entry_enumerate_new
    (meets_enum1 B) ⟨h1, ?_⟩
  have hz : (s.heap.push o).objs.size = s.heap.objs.size + 1 := Heap.size_push ..
  show _ ∧ _
  rw [hz]
  have he : IsEnum ((s.heap.push o).push { cls := .type "enumerate", data := .fields #[.none, .bool false, .ref s.heap.objs.size, rawInt 0, .none, .none] }) (s.heap.objs.size + 1) s.heap.objs.size 0 .none := by
    have := Heap.get?_push_size (s.heap.push o) (o := { cls := .type "enumerate", data := .fields #[.none, .bool false, .ref s.heap.objs.size, rawInt 0, .none, .none] }) rfl
    rw [hz] at this; exact this
  refine ⟨⟨_, he, rfl⟩, h _ he (Heap.get?_push_of_some _ (Heap.get?_push_size _ B.free)) (by rw [Heap.size_push, hz]) fun b o x => Heap.get?_push_of_some _ (Heap.get?_push_of_some _ x)⟩
/-- a source among the arguments -/
def SrcV (K : PySem.W.Frag) (H : Hp) (v : L2.V) (k : DK) (xs : List L2.V) : Prop := v = k.val ∧ k.rd K H xs
theorem pi_en {X : Cx} {e : Expr} {ta : TA} {p pos tpos : Pos} {elts : List Expr} {kk : Nat} (hg : Gl X "enumerate") (hm : X.mg "enumerate" = none) (ha : PA X [e] ta) (hs : starEach [e] X.env = [(false, eval e X.env)] := by rfl) :
    PI X (.Tuple elts kk tpos) (.Call (.Name "enumerate" p) [e] [] pos) (fun σ H R => ta σ H fun vs H1 => ∃ v k xs, vs = [v] ∧ SrcV X.K H1 v k xs ∧ R (ItEn X.K k 0) H1) := by
  refine ⟨fun pins s σ H R I h => ?_⟩
  refine Call_ (ld_blt I hg hm boot_enumerate (PyProof.Rows.callWith_type1 (thn (ha.run pos pins s σ H _ I h) fun us s1 ⟨vs, H1, I1, r1, q1⟩ => ?_) hs rfl))
  obtain ⟨v, k, xs, ex, ⟨ev, rd⟩, q⟩ := q1
  subst ex
  cases r1 with
  | cons r rr =>
    cases rr
    subst ev
    obtain ⟨o, Hs, B, hs', si⟩ := DK.begin_ I1 rd r
    refine enum1_begins B hs' fun h' he hit hsz hk => wpAny_pyIter_enum he ?_
    refine ⟨s1.heap.objs.size + 1, [s1.heap.objs.size + 1, s1.heap.objs.size], _, _, H1, rfl, I1.kept (t' := s1.toks) hk, turn_en k 0 (s1.heap.objs.size + 1) s1.heap.objs.size, ⟨⟨.none, ?_⟩, si _ _ hit, Nat.succ_ne_self _⟩, en_fresh I1, q⟩
    simpa using he
theorem pi_en2 {X : Cx} {e e2 : Expr} {ta : TA} {p pos tpos : Pos} {elts : List Expr} {kk : Nat} (hg : Gl X "enumerate") (hm : X.mg "enumerate" = none) (ha : PA X [e, e2] ta)
    (hs : starEach [e, e2] X.env = (false, eval e X.env) :: starEach [e2] X.env := by rfl) (hpl : (backTo pos (starEach [e2] X.env)).any (·.1) = false := by rfl) :
    PI X (.Tuple elts kk tpos) (.Call (.Name "enumerate" p) [e, e2] [] pos) (fun σ H R => ta σ H fun vs H1 => ∃ v k xs k0, vs = [v, .int k0] ∧ SrcV X.K H1 v k xs ∧ (-(2 ^ 63) ≤ k0 ∧ k0 < 2 ^ 63) ∧ R (ItEn X.K k k0) H1) := by
  refine ⟨fun pins s σ H R I h => ?_⟩
  refine Call_ (ld_blt I hg hm boot_enumerate (PyProof.Rows.callWith_type1 (thn (ha.run pos pins s σ H _ I h) fun us s1 ⟨vs, H1, I1, r1, q1⟩ => ?_) hs hpl))
  obtain ⟨v, k, xs, k0, ex, ⟨ev, rd⟩, ⟨hk0, hk1⟩, q⟩ := q1
  subst ex
  cases r1 with
  | cons r rr =>
    cases rr with
    | cons r' rr =>
      cases rr
      subst ev
      obtain ⟨t, rfl⟩ := r'
      obtain ⟨o, Hs, B, hs', si⟩ := DK.begin_ I1 rd r
      refine enum_begins B hs' hk0 hk1 fun h' he hit hsz hk => wpAny_pyIter_enum he ?_
      refine ⟨s1.heap.objs.size + 1, [s1.heap.objs.size + 1, s1.heap.objs.size], _, _, H1, rfl, I1.kept (t' := s1.toks) hk, turn_en k k0 (s1.heap.objs.size + 1) s1.heap.objs.size, ⟨⟨.none, ?_⟩, si _ _ hit, Nat.succ_ne_self _⟩, en_fresh I1, q⟩
      simpa using he

/-! ### zip of two -/
def ItZ2 (K : PySem.W.Frag) (k1 k2 : DK) : It :=
  ⟨fun i H => ∃ (xs ys : List V) (x y : V), k1.rd K H xs ∧ k2.rd K H ys ∧ xs[i]? = some x ∧ ys[i]? = some y,
    fun i H v H' => ∃ (T : Addr) (o : Obj) (x y : V), v = .ref T ∧ H T = none ∧ o.dict = none ∧ H' = upd H T (.frz o (.tup [x, y])) ∧ (∀ xs, k1.rd K H xs → xs[i]? = some x) ∧ ∀ ys, k2.rd K H ys → ys[i]? = some y,
    fun i H => ∃ xs ys : List V, k1.rd K H xs ∧ k2.rd K H ys ∧ min xs.length ys.length = i⟩
structure Zap (z TI TO i1 i2 : Addr) : Prop where
  a1 : TI ≠ z
  a2 : TO ≠ z
  a3 : TI ≠ TO
  a4 : TI ≠ i1
  a5 : z ≠ i1
  a6 : TO ≠ i1
  a7 : TI ≠ i2
  a8 : z ≠ i2
  a9 : TO ≠ i2
  b1 : i1 ≠ i2
theorem Drw.notIn {X : Cx} {k : DK} {it i h xs fp P St} (D : Drw X k it i h xs fp P St) {e : Addr} (hne : e ≠ it) (he : e ∉ fp ∨ ∃ o fs, h.get? e = some o ∧ o.data = .fields fs) : e ∉ fp := he.elim id fun q => D.apart hne q
/-- the sources lie apart from a new object -/
def Off (k : DK) (a : Addr) : Prop := match k with
  | .lst l => l ≠ a
  | .tup l => l ≠ a
  | .txt _ => True
theorem DK.drw2 {X : Cx} {pins σ H s} (I : Inv X pins σ H s) (hc : X.calm = true) {k : DK} {xs : List V} {it : Addr} {i : Nat} (rd : k.rd X.K H xs) (st : k.si it i s.heap) : ∃ fp P St, Drw X k it i s.heap xs fp P St ∧ ∀ b ∈ fp, b = it ∨ ¬ Off k b := by
  obtain ⟨fp, P, St, D⟩ := DK.drw I hc rd st
  -- the same draws, their cells named
  have hh : X.A.in1.handled = none := I.ok.hd hc
  obtain ⟨o', eo, fs, df⟩ := DK.si_obj st
  cases k with
  | lst a =>
    obtain ⟨its, rv, p, hz⟩ := I.list rd
    obtain ⟨o, n, e, c, z, d⟩ := id p
    have ne : a ≠ it := fun z => by rw [z, eo] at e; cases e; rw [df] at d; cases d
    have hl := rv.length
    refine ⟨[it, a], fun i v => its.toArray[i]? = some v, fun i h => h.IsListIter it a i ∧ h.IsList a its.toArray, ⟨?_, ⟨st, p.isList⟩, by simp, fun b hb => ?_, fun j x hx => ?_, fun j h' s' => s'.1⟩, fun b hb => ?_⟩
    · have q := Draws.list (prog := X.prog) (w := X.w) hh it a ne its.toArray
      rw [List.size_toArray, ← hl] at q
      exact q
    · have hb' : b = it ∨ b = a := by simpa using hb
      rcases hb' with q | q
      · exact .inl q
      · rw [q]; exact .inr ⟨o, _, n, e, d⟩
    · have hj : j < xs.length := by
        have : (its.toArray[j]?).isSome := by rw [hx]; rfl
        simp at this
        omega
      obtain ⟨u, hu, ru⟩ := rv.get (List.getElem?_eq_getElem hj)
      have hx' : its.toArray[j]? = some x := hx
      have : its[j]? = some x := by simpa using hx'
      rw [hu] at this
      cases this
      exact ⟨_, List.getElem?_eq_getElem hj, ru⟩
    · have hb' : b = it ∨ b = a := by simpa using hb
      rcases hb' with q | q
      · exact .inl q
      · exact .inr fun z => z q.symm
  | tup a =>
    obtain ⟨its, rv, p, hz⟩ := I.tuple rd
    obtain ⟨o, e, c, n, d⟩ := id p
    have ne : a ≠ it := fun z => by rw [z, eo] at e; cases e; rw [df] at d; cases d
    have hl := rv.length
    refine ⟨[it, a], fun i v => its.toArray[i]? = some v, fun i h => h.IsTupleIter it a i ∧ h.IsTuple a its.toArray, ⟨?_, ⟨st, p⟩, by simp, fun b hb => ?_, fun j x hx => ?_, fun j h' s' => s'.1⟩, fun b hb => ?_⟩
    · have q := Draws.tuple (prog := X.prog) (w := X.w) hh it a ne its.toArray
      rw [List.size_toArray, ← hl] at q
      exact q
    · have hb' : b = it ∨ b = a := by simpa using hb
      rcases hb' with q | q
      · exact .inl q
      · rw [q]; exact .inr ⟨o, _, n, e, d⟩
    · have hj : j < xs.length := by
        have : (its.toArray[j]?).isSome := by rw [hx]; rfl
        simp at this
        omega
      obtain ⟨u, hu, ru⟩ := rv.get (List.getElem?_eq_getElem hj)
      have hx' : its.toArray[j]? = some x := hx
      have : its[j]? = some x := by simpa using hx'
      rw [hu] at this
      cases this
      exact ⟨_, List.getElem?_eq_getElem hj, ru⟩
    · have hb' : b = it ∨ b = a := by simpa using hb
      rcases hb' with q | q
      · exact .inl q
      · exact .inr fun z => z q.symm
  | txt x =>
    obtain ⟨t, st⟩ := st
    have rd : xs = chars x := rd
    have hl : xs.length = x.cps.size := by rw [rd]; simp [chars]
    refine ⟨[it], fun i v => ∃ c u, x.cps[i]? = some c ∧ v = .str ⟨#[c]⟩ u, fun i h => h.IsStrIter it (strIterType x) x t i, ⟨?_, st, by simp, fun b hb => .inl (by simpa using hb), fun j v hx => ?_, fun j h' s' => ⟨t, s'⟩⟩, fun b hb => .inl (by simpa using hb)⟩
    · rw [hl]
      exact Draws.text hh it x t
    · obtain ⟨c, u, hx, rfl⟩ := hx
      refine ⟨.str ⟨#[c]⟩, ?_, ⟨u, rfl⟩⟩
      rw [rd, chars, List.getElem?_map]
      have : x.cps.toList[j]? = some c := by simpa using hx
      rw [this]
      rfl
theorem turn_z2 {P : Program} {w : World} {K : PySem.W.Frag} {elts : List Expr} {kk : Nat} {tpos : Pos} (k1 k2 : DK) {z TI TO i1 i2 : Addr} (Z : Zap z TI TO i1 i2) (o1 : Off k1 z ∧ Off k1 TO ∧ Off k1 i2) (o2 : Off k2 z ∧ Off k2 TO ∧ Off k2 i1) :
    Turn P w K (.Tuple elts kk tpos) (ItZ2 K k1 k2) [z, TI, TO, i1, i2] z (fun i h => IsZip h z TI TO .none ∧ IsTupOf2 h TI (.ref i1) (.ref i2) ∧ (∃ x y, IsTupOf2 h TO x y) ∧ k1.si i1 i h ∧ k2.si i2 i h) where
  mem := by simp
  obj := fun i h st b hb => by
    obtain ⟨hz, hTI, ⟨x, y, hTO⟩, s1, s2⟩ := st
    obtain ⟨o1, e1, f1, d1⟩ := DK.si_obj s1
    obtain ⟨o2, e2, f2, d2⟩ := DK.si_obj s2
    have e' : b = z ∨ b = TI ∨ b = TO ∨ b = i1 ∨ b = i2 := by simpa using hb
    rcases e' with q | q | q | q | q
    · rw [q]; exact ⟨_, hz, fun v q => nomatch q⟩
    · rw [q]; exact ⟨_, hTI, fun v q => nomatch q⟩
    · rw [q]; exact ⟨_, hTO, fun v q => nomatch q⟩
    · rw [q]; exact ⟨o1, e1, fun v q => by rw [d1] at q; cases q⟩
    · rw [q]; exact ⟨o2, e2, fun v q => by rw [d2] at q; cases q⟩
  keep := fun i h h' st k => by
    obtain ⟨hz, hTI, ⟨x, y, hTO⟩, h1, h2⟩ := st
    exact ⟨k z (by simp) _ hz, k TI (by simp) _ hTI, ⟨x, y, k TO (by simp) _ hTO⟩, DK.si_keep h1 fun o q => k i1 (by simp) o q, DK.si_keep h2 fun o q => k i2 (by simp) o q⟩
  item := by
    intro X hP hw hK hc i pins s σ H E I hf st hg
    subst hP hw hK
    obtain ⟨hz, hTI, ⟨x0, y0, hTO⟩, h1, h2⟩ := st
    obtain ⟨xs, ys, x, y, hqx, hqy, hx, hy⟩ := hg
    obtain ⟨fp1, P1, St1, D1, n1⟩ := DK.drw2 I hc hqx h1
    obtain ⟨fp2, P2, St2, D2, n2⟩ := DK.drw2 I hc hqy h2
    have S : ZipSep2 z TI TO i1 i2 fp1 fp2 := ⟨Z.a1, Z.a2, Z.a3, Z.a4, D1.mem, fun m => (n1 _ m).elim Z.a5 fun q => q o1.1, fun m => (n1 _ m).elim Z.a6 fun q => q o1.2.1, Z.a7, D2.mem, fun m => (n2 _ m).elim Z.a8 fun q => q o2.1, fun m => (n2 _ m).elim Z.a9 fun q => q o2.2.1,
      fun m => (n2 _ m).elim Z.b1 fun q => q o2.2.2, fun m => (n1 _ m).elim Z.b1.symm fun q => q o1.2.2⟩
    have W := WalksL.zipD2 S D1.draws D2.draws
    have l1 : i < xs.length := (List.getElem?_eq_some_iff.mp hx).1
    have l2 : i < ys.length := (List.getElem?_eq_some_iff.mp hy).1
    refine wpAny_mono (walksT_item (ch := [z, TI, TO, i1, i2]) (E := E) I W (by omega) ⟨hz, hTI, ⟨x0, y0, hTO⟩, D1.st, D2.st⟩ (fun b hb => ?_) hf (fun b hb => ?_) (Y := fun us => us = [x, y]) (fun vals hv => ?_) (elts := elts) (kk := kk) (tpos := tpos)) (fun r s1 ⟨u, hr, h1⟩ => ⟨u, hr, wpAny_mono h1 (fun _ s2 h2 => ?_) fun _ _ z => z⟩) fun _ _ z => z
    · have e' : b = z ∨ b = TO ∨ b = i1 ∨ b = i2 := by simpa using hb
      rcases e' with q | q | q | q
      all_goals simp [q]
    · obtain ⟨o1, e1, _⟩ := DK.si_obj h1
      obtain ⟨o2, e2, _⟩ := DK.si_obj h2
      have e' : b = z ∨ b = TI ∨ b = TO ∨ b = i1 ∨ b = i2 := by simpa using hb
      rcases e' with q | q | q | q | q
      · rw [q]; exact ⟨_, hz⟩
      · rw [q]; exact ⟨_, hTI⟩
      · rw [q]; exact ⟨_, hTO⟩
      · rw [q]; exact ⟨o1, e1⟩
      · rw [q]; exact ⟨o2, e2⟩
    · obtain ⟨x', y', hx', hy', rfl⟩ := hv
      obtain ⟨a, ha, ra⟩ := D1.rel i x' hx'
      obtain ⟨b, hb, rb⟩ := D2.rel i y' hy'
      rw [hx] at ha
      cases ha
      rw [hy] at hb
      cases hb
      exact ⟨_, .cons ra (.cons rb .nil), by show 2 ≤ sizeLine; decide, rfl⟩
    · obtain ⟨T, o, us, rfl, hT, hod, rfl, I2, st2, hk2, hn⟩ := h2
      obtain ⟨q1, q2, q3, q4, q5⟩ := st2
      exact ⟨.ref T, _, I2, rfl, ⟨T, o, x, y, rfl, hT, hod, rfl, fun us hu => by rw [DK.rd_inj I hu hqx]; exact hx, fun us hu => by rw [DK.rd_inj I hu hqy]; exact hy⟩, ⟨q1, q2, q3, D1.back _ _ q4, D2.back _ _ q5⟩, hn⟩
  done := by
    intro X hP hw hK hc i pins s σ H E I hf st hg
    subst hP hw hK
    obtain ⟨hz, hTI, ⟨x0, y0, hTO⟩, h1, h2⟩ := st
    obtain ⟨xs, ys, hqx, hqy, hi⟩ := hg
    obtain ⟨fp1, P1, St1, D1, n1⟩ := DK.drw2 I hc hqx h1
    obtain ⟨fp2, P2, St2, D2, n2⟩ := DK.drw2 I hc hqy h2
    have S : ZipSep2 z TI TO i1 i2 fp1 fp2 := ⟨Z.a1, Z.a2, Z.a3, Z.a4, D1.mem, fun m => (n1 _ m).elim Z.a5 fun q => q o1.1, fun m => (n1 _ m).elim Z.a6 fun q => q o1.2.1, Z.a7, D2.mem, fun m => (n2 _ m).elim Z.a8 fun q => q o2.1, fun m => (n2 _ m).elim Z.a9 fun q => q o2.2.1,
      fun m => (n2 _ m).elim Z.b1 fun q => q o2.2.2, fun m => (n1 _ m).elim Z.b1.symm fun q => q o1.2.2⟩
    have W := WalksL.zipD2 S D1.draws D2.draws
    subst hi
    refine walksT_done (ch := [z, TI, TO, i1, i2]) I W ⟨hz, hTI, ⟨x0, y0, hTO⟩, D1.st, D2.st⟩ (fun b hb => ?_) hf
    have e' : b = z ∨ b = TO ∨ b = i1 ∨ b = i2 := by simpa using hb
    rcases e' with q | q | q | q
    all_goals simp [q]
  self := fun A i s Q E st h => wpAny_pyIter_zip st.1 h
theorem off_new {X : Cx} {pins σ H s} (I : Inv X pins σ H s) {k : DK} {xs : List V} (rd : k.rd X.K H xs) (a : Addr) (h : s.heap.objs.size ≤ a) : Off k a := by
  cases k with
  | lst l =>
    obtain ⟨its, rv, p, hz⟩ := I.list rd
    exact Nat.ne_of_lt (Nat.lt_of_lt_of_le p.lt h)
  | tup l =>
    obtain ⟨its, rv, ⟨o, e, _⟩, hz⟩ := I.tuple rd
    exact Nat.ne_of_lt (Nat.lt_of_lt_of_le (Heap.lt_size e) h)
  | txt x => trivial
theorem pi_z2 {X : Cx} {e e2 : Expr} {ta : TA} {p pos tpos : Pos} {elts : List Expr} {kk : Nat} (hg : Gl X "zip") (hm : X.mg "zip" = none) (ha : PA X [e, e2] ta)
    (hs : starEach [e, e2] X.env = (false, eval e X.env) :: starEach [e2] X.env := by rfl) (hpl : (backTo pos (starEach [e2] X.env)).any (·.1) = false := by rfl) :
    PI X (.Tuple elts kk tpos) (.Call (.Name "zip" p) [e, e2] [] pos) (fun σ H R => ta σ H fun vs H1 => ∃ v v2 k k2 xs ys, vs = [v, v2] ∧ SrcV X.K H1 v k xs ∧ SrcV X.K H1 v2 k2 ys ∧ R (ItZ2 X.K k k2) H1) := by
  refine ⟨fun pins s σ H R I h => ?_⟩
  refine Call_ (ld_blt I hg hm PyProof.Rows.boot_zip (PyProof.Rows.callWith_type1 (thn (ha.run pos pins s σ H _ I h) fun us s1 ⟨vs, H1, I1, r1, q1⟩ => ?_) hs hpl))
  obtain ⟨v, v2, k, k2, xs, ys, ex, ⟨ev, rd⟩, ⟨ev2, rd2⟩, q⟩ := q1
  subst ex
  cases r1 with
  | cons r rr =>
    cases rr with
    | cons r' rr =>
      cases rr
      subst ev
      subst ev2
      obtain ⟨o, Hs, B, hs', si⟩ := DK.begin_ I1 rd r
      obtain ⟨o2, Hs2, B2, hs2, si2⟩ := DK.begin_ I1 rd2 r'
      have fresh5 : ∀ c, c ∈ [s1.heap.objs.size + 4, s1.heap.objs.size + 2, s1.heap.objs.size + 3, s1.heap.objs.size, s1.heap.objs.size + 1] → s1.heap.objs.size ≤ c := fun c hcm => by
        have e' : c = s1.heap.objs.size + 4 ∨ c = s1.heap.objs.size + 2 ∨ c = s1.heap.objs.size + 3 ∨ c = s1.heap.objs.size ∨ c = s1.heap.objs.size + 1 := by simpa using hcm
        rcases e' with z | z | z | z | z
        · rw [z]; exact Nat.le_add_right _ _
        · rw [z]; exact Nat.le_add_right _ _
        · rw [z]; exact Nat.le_add_right _ _
        · rw [z]; exact Nat.le_refl _
        · rw [z]; exact Nat.le_add_right _ _
      refine zip_begins2 B B2 hs' hs2 fun h' hz hTI hTO h1 h2 hsz hk => wpAny_pyIter_zip hz ?_
      have of1 : ∀ c, s1.heap.objs.size ≤ c → Off k c := fun c hcm => off_new I1 rd c hcm
      have of2 : ∀ c, s1.heap.objs.size ≤ c → Off k2 c := fun c hcm => off_new I1 rd2 c hcm
      have Z : Zap (s1.heap.objs.size + 4) (s1.heap.objs.size + 2) (s1.heap.objs.size + 3) s1.heap.objs.size (s1.heap.objs.size + 1) := by
        generalize s1.heap.objs.size = n
        have n : Nat := n
        constructor
        all_goals (show (_ : Nat) ≠ _)
        all_goals omega
      exact ⟨s1.heap.objs.size + 4, [s1.heap.objs.size + 4, s1.heap.objs.size + 2, s1.heap.objs.size + 3, s1.heap.objs.size, s1.heap.objs.size + 1], _, _, H1, rfl, I1.kept (t' := s1.toks) hk,
        turn_z2 k k2 Z ⟨of1 _ (Nat.le_add_right _ _), of1 _ (Nat.le_add_right _ _), of1 _ (Nat.le_add_right _ _)⟩ ⟨of2 _ (Nat.le_add_right _ _), of2 _ (Nat.le_add_right _ _), of2 _ (Nat.le_refl _)⟩,
        ⟨hz, hTI, ⟨_, _, hTO⟩, si _ _ h1, si2 _ _ h2⟩, fun c hcm => I1.fpOk (fresh5 c hcm) (I1.hok.fresh (fresh5 c hcm)), q⟩
end Vi
end Vi7_

section Vi8_
set_option Elab.async false
set_option linter.all false
set_option maxRecDepth 100000
namespace Vi
open PySem PySem.Spec PyProof.Rows L2

/-! ### sources -/
inductive Src where
  | of (v : Val)
  | rng (lo c : Int) (n : Nat)
  | enum (v : Val) (k0 : Int)
  | zip (v w : Val)
def charsD (x : Str) : List PyData := x.cps.toList.map fun c => .str ⟨#[c]⟩
/-- the items of a list, a tuple, a text -/
def itmsD (h : Hep) (v : Val) : Option (List PyData) := match toDat h v with
  | some (.list xs) => some xs
  | some (.tuple xs) => some xs
  | some (.str x) => some (charsD x)
  | _ => none
/-- the i-th of them; none: it is over -/
def nxt {α : Type} (l : List α) (i : Nat) : Option (Option α) := match l[i]? with
  | some v => some (some v)
  | none => if i = l.length then some none else none
theorem nxt_some {α : Type} {l : List α} {i : Nat} {v : α} (h : nxt l i = some (some v)) : l[i]? = some v := by
  unfold nxt at h
  split at h
  · rename_i w q
    cases h
    exact q
  · split at h
    all_goals cases h
theorem nxt_none {α : Type} {l : List α} {i : Nat} (h : nxt l i = some none) : l.length = i := by
  unfold nxt at h
  split at h
  · cases h
  · split at h
    · rename_i e
      exact e.symm
    · cases h
def Src.itm : Src → Nat → Hep → Option (Option Val)
  | .of (.ref n), i, h => match h[n]? with
    | some (.lst xs) => nxt (xs.map .dat) i
    | some (.refs ns) => nxt (ns.map .ref) i
    | _ => none
  | .of v, i, h => match itmsD h v with
    | some xs => nxt (xs.map .dat) i
    | none => none
  | .rng lo c n, i, _ => if i < n then some (some (.dat (.int (lo + (i : Int) * c)))) else if i = n then some none else none
  | .enum v k0, i, h => match itmsD h v with
    | some xs => (nxt xs i).map fun o => o.map fun d => .dat (.tuple [.int (k0 + (i : Int)), d])
    | none => none
  | .zip v w, i, h => match itmsD h v, itmsD h w with
    | some xs, some ys => (match xs[i]?, ys[i]? with
      | some x, some y => some (some (.dat (.tuple [x, y])))
      | _, _ => if i = min xs.length ys.length then some none else none)
    | _, _ => none
def kOf (v : Val) (x : V) : DK := match v, x with
  | .dat (.tuple _), .ref a => .tup a
  | _, .str x => .txt x
  | _, .ref a => .lst a
  | _, _ => .txt ⟨#[]⟩
section
variable {K : PySem.W.Frag} {G : Gh} {H : Hp} {ρ : Rho} {h : Hep}
theorem reps_chars (x : Str) : Reps K H ρ (charsD x) (chars x) := by
  unfold charsD chars
  induction x.cps.toList with
  | nil => rfl
  | cons c r ih => exact ⟨_, _, rfl, rfl, ih⟩
theorem src_at (S : SimH K G H ρ h) {v : Val} {x : V} (r : RepV K G H ρ v x) {xs : List PyData} (e : itmsD h v = some xs) : ∃ vs, x = (kOf v x).val ∧ (kOf v x).rd K H vs ∧ Reps K H ρ xs vs := by
  unfold itmsD at e
  split at e
  · rename_i ys q
    cases e
    obtain ⟨a, vs, e1, e2, e3⟩ := list_at S r q
    subst e1
    have kk : kOf v (.ref a) = .lst a := by
      unfold kOf
      cases v with
      | dat d =>
        have : d = .list xs := by simpa [toDat] using q
        subst this
        rfl
      | ref n => rfl
      | scr n => rfl
      | thk => rfl
      | exc n => rfl
    rw [kk]
    exact ⟨vs, rfl, e2, e3⟩
  · rename_i ys q
    cases e
    have := dat_of q (by intro ys z; cases z)
    subst this
    obtain ⟨a, vs, e1, e2, e3⟩ := tup_at r q
    subst e1
    exact ⟨vs, rfl, e2.sq, e3⟩
  · rename_i z q
    cases e
    have := dat_of q (by intro ys z; cases z)
    subst this
    have r : x = .str z := r
    subst r
    exact ⟨chars z, rfl, rfl, reps_chars z⟩
  · cases e
theorem refs_at (S : SimH K G H ρ h) {n : Nat} {x : V} (r : RefOk ρ n x) {ns : List Nat} (e : h[n]? = some (.refs ns)) : ∃ a vs, x = .ref a ∧ H a = some (.lst vs) ∧ vs.length = ns.length ∧ ∀ (i n : Nat) (v : V), ns[i]? = some n → vs[i]? = some v → RefOk ρ n v := by
  obtain ⟨a, e1, vs, e2, e3, e4⟩ := S.alive e (by simp)
  exact ⟨a, vs, r.2 a e1, e2, e3, e4⟩
end
/-- the source s is walked by J -/
def RIt (D : Wd) (H : Hp) (ρ : Rho) (s : Src) (J : It) : Prop := ∀ i H' ρ' h', Step ρ H ρ' H' → SimH D.K D.G H' ρ' h' →
  (∀ d, s.itm i h' = some (some d) → J.go i H' ∧ ∀ x H'', J.yld i H' x H'' → Step ρ' H' ρ' H'' ∧ SimH D.K D.G H'' ρ' h' ∧ RepV D.K D.G H'' ρ' d x) ∧ (s.itm i h' = some none → J.stop i H')
def JI (G : Gh) (W : WX) (X : Cx) (tg iter : Expr) (mi : Env → Hep → Out Src) : Prop := PI X tg iter (rX (wd G X) W (RIt (wd G X)) mi)
theorem PI.to {X : Cx} {tg e : Expr} {t t' : TI} (h : PI X tg e t) (hw : ∀ σ H Q, t' σ H Q → t σ H Q) : PI X tg e t' := ⟨fun pins s σ H Q I q => h.run pins s σ H Q I (hw σ H Q q)⟩
section
variable {D : Wd} {H : Hp} {ρ : Rho} {h : Hep}
/-- the items of a value -/
def itmV (v : Val) (i : Nat) (h' : Hep) : Option (Option Val) := match v with
  | .ref n => (match h'[n]? with
    | some (.lst xs) => nxt (xs.map .dat) i
    | some (.refs ns) => nxt (ns.map .ref) i
    | _ => none)
  | v => (match itmsD h' v with
    | some xs => nxt (xs.map .dat) i
    | none => none)
theorem itm_of (v : Val) (i : Nat) (h' : Hep) : (Src.of v).itm i h' = itmV v i h' := by
  cases v
  all_goals rfl
theorem rit_of {v : Val} {x : V} {k : DK} (hk : k = kOf v x) (r : RepV D.K D.G H ρ v x) : RIt D H ρ (.of v) (ItD D.K k) := by
  subst hk
  intro i H' ρ' h' st S
  have r' := r.step st
  have data : ∀ xs, itmsD h' v = some xs → (∀ d, nxt (xs.map Val.dat) i = some (some d) → (ItD D.K (kOf v x)).go i H' ∧ ∀ y H'', (ItD D.K (kOf v x)).yld i H' y H'' → Step ρ' H' ρ' H'' ∧ SimH D.K D.G H'' ρ' h' ∧ RepV D.K D.G H'' ρ' d y) ∧ (nxt (xs.map Val.dat) i = some none → (ItD D.K (kOf v x)).stop i H') := fun xs e => by
    obtain ⟨vs, e1, rd, rs⟩ := src_at S r' e
    refine ⟨fun d q => ?_, fun q => ⟨vs, rd, ?_⟩⟩
    · have q := nxt_some q
      rw [List.getElem?_map] at q
      cases qx : xs[i]? with
      | none => rw [qx] at q; cases q
      | some d' =>
        rw [qx] at q
        cases q
        obtain ⟨y, hy, ry⟩ := rs.get i qx
        refine ⟨⟨vs, y, rd, hy⟩, fun z H'' hz => ?_⟩
        obtain ⟨hz1, hz2⟩ := hz
        subst hz1
        have := hz2 vs rd
        rw [hy] at this
        cases this
        exact ⟨.refl, S, ry⟩
    · have q := nxt_none q
      rw [rs.len]
      simpa using q
  rw [itm_of]
  unfold itmV
  cases v with
  | ref n =>
    simp only
    split
    · rename_i xs q
      exact data xs (by simp [itmsD, toDat, q])
    · rename_i ns q
      obtain ⟨a, vs, e1, e2, e3, e4⟩ := refs_at S r' q
      subst e1
      refine ⟨fun d q' => ?_, fun q' => ⟨vs, .of e2, ?_⟩⟩
      · have q' := nxt_some q'
        rw [List.getElem?_map] at q'
        cases qx : ns[i]? with
        | none => rw [qx] at q'; cases q'
        | some m =>
          rw [qx] at q'
          cases q'
          have hi : i < vs.length := by
            rw [e3]
            exact (List.getElem?_eq_some_iff.mp qx).1
          refine ⟨⟨vs, vs[i], .of e2, List.getElem?_eq_getElem hi⟩, fun z H'' hz => ?_⟩
          obtain ⟨hz1, hz2⟩ := hz
          subst hz1
          exact ⟨.refl, S, e4 i m z qx (hz2 vs (.of e2))⟩
      · have q' := nxt_none q'
        rw [e3]
        simpa using q'
    · exact ⟨fun d q => (by cases q), fun q => (by cases q)⟩
  | dat d =>
    simp only
    split
    · rename_i xs q
      exact data xs q
    · exact ⟨fun d q => (by cases q), fun q => (by cases q)⟩
  | scr d =>
    simp only
    split
    · rename_i xs q
      exact data xs q
    · exact ⟨fun d q => (by cases q), fun q => (by cases q)⟩
  | thk =>
    simp only
    split
    · rename_i xs q
      exact data xs q
    · exact ⟨fun d q => (by cases q), fun q => (by cases q)⟩
  | exc d =>
    simp only
    split
    · rename_i xs q
      exact data xs q
    · exact ⟨fun d q => (by cases q), fun q => (by cases q)⟩
theorem rit_rng (lo c : Int) (n : Nat) : RIt D H ρ (.rng lo c n) (Itc lo c n) := by
  intro i H' ρ' h' st S
  refine ⟨fun d q => ?_, fun q => ?_⟩
  · simp only [Src.itm] at q
    split at q
    · rename_i hi
      cases q
      refine ⟨hi, fun x H'' hy => ?_⟩
      obtain ⟨rfl, e⟩ := hy
      exact ⟨.refl, S, e⟩
    · split at q
      all_goals cases q
  · simp only [Src.itm] at q
    split at q
    · cases q
    · split at q
      · rename_i e
        exact Nat.le_of_eq e.symm
      · cases q
theorem rit_rng1 (lo : Int) (n : Nat) : RIt D H ρ (.rng lo 1 n) (Itr lo n) := by
  intro i H' ρ' h' st S
  obtain ⟨q1, q2⟩ := rit_rng (D := D) (H := H) (ρ := ρ) lo 1 n i H' ρ' h' st S
  refine ⟨fun d q => ⟨(q1 d q).1, fun x H'' hy => (q1 d q).2 x H'' ⟨hy.1, ?_⟩⟩, q2⟩
  rw [Int.mul_one]
  exact hy.2
theorem pairRep {K H ρ} {a b : PyData} {x y : V} (ra : Rep K H ρ a x) (rb : Rep K H ρ b y) : Reps K H ρ [a, b] [x, y] := ⟨_, _, rfl, ra, _, _, rfl, rb, rfl⟩
theorem rit_enum {v : Val} {x : V} {k : DK} {k0 : Int} (hk : k = kOf v x) (r : RepV D.K D.G H ρ v x) : RIt D H ρ (.enum v k0) (ItEn D.K k k0) := by
  subst hk
  intro i H' ρ' h' st S
  have r' := r.step st
  simp only [Src.itm]
  split
  · rename_i xs e
    obtain ⟨vs, e1, rd, rs⟩ := src_at S r' e
    refine ⟨fun d q => ?_, fun q => ⟨vs, rd, ?_⟩⟩
    · cases q' : nxt xs i with
      | none => rw [q'] at q; cases q
      | some o =>
        rw [q'] at q
        cases o with
        | none => cases q
        | some d' =>
          cases q
          have q' := nxt_some q'
          obtain ⟨y, hy, ry⟩ := rs.get i q'
          refine ⟨⟨vs, y, rd, hy⟩, fun z H'' hz => ?_⟩
          obtain ⟨T, ob, w, rfl, hT, hod, rfl, hw⟩ := hz
          have := hw vs rd
          rw [hy] at this
          cases this
          exact ⟨S.stepNew hT, S.new hT, rep_newT S hT hod (pairRep rfl ry)⟩
    · cases q' : nxt xs i with
      | none => rw [q'] at q; cases q
      | some o =>
        rw [q'] at q
        cases o with
        | none =>
          have q' := nxt_none q'
          rw [rs.len]
          exact q'
        | some d' => cases q
  · exact ⟨fun d q => (by cases q), fun q => (by cases q)⟩
theorem rit_zip {v w : Val} {x y : V} {k k2 : DK} (hk : k = kOf v x) (hk2 : k2 = kOf w y) (r : RepV D.K D.G H ρ v x) (r2 : RepV D.K D.G H ρ w y) : RIt D H ρ (.zip v w) (ItZ2 D.K k k2) := by
  subst hk
  subst hk2
  intro i H' ρ' h' st S
  have r' := r.step st
  have r2' := r2.step st
  simp only [Src.itm]
  split
  · rename_i xs ys e e'
    obtain ⟨vs, e1, rd, rs⟩ := src_at S r' e
    obtain ⟨us, e2, rd2, rs2⟩ := src_at S r2' e'
    split
    · rename_i a b qa qb
      refine ⟨fun d q => ?_, fun q => by cases q⟩
      cases q
      obtain ⟨p, hp, rp⟩ := rs.get i qa
      obtain ⟨p2, hp2, rp2⟩ := rs2.get i qb
      refine ⟨⟨vs, us, p, p2, rd, rd2, hp, hp2⟩, fun z H'' hz => ?_⟩
      obtain ⟨T, ob, w1, w2, rfl, hT, hod, rfl, hw, hw'⟩ := hz
      have z1 := hw vs rd
      rw [hp] at z1
      cases z1
      have z2 := hw' us rd2
      rw [hp2] at z2
      cases z2
      exact ⟨S.stepNew hT, S.new hT, rep_newT S hT hod (pairRep rp rp2)⟩
    · refine ⟨fun d q => ?_, fun q => ?_⟩
      · split at q
        all_goals cases q
      · split at q
        · rename_i hi
          exact ⟨vs, us, rd, rd2, by rw [rs.len, rs2.len]; exact hi.symm⟩
        · cases q
  · exact ⟨fun d q => (by cases q), fun q => (by cases q)⟩
end
/-! ### the mirrors of iterables -/
def kIt (v : Val) (h : Hep) : Out Src := match (Src.of v).itm 0 h with
  | some _ => .ok (.of v) h
  | none => .bad
def mIt (m : ME) : Env → Hep → Out Src := fun env h => (m env h).bind kIt
/-- a small number; kept from being computed -/
structure Sm (j : Int) : Prop where
  lo : -(2 ^ 62) ≤ j
  hi : j < 2 ^ 62
noncomputable def kRng1 (vs : List Val) (h : Hep) : Out Src := match vs with
  | [.dat (.int j)] => @ite _ (Sm j) (Classical.propDecidable _) (.ok (.rng 0 1 j.toNat) h) .bad
  | _ => .bad
noncomputable def kRng2 (vs : List Val) (h : Hep) : Out Src := match vs with
  | [.dat (.int i), .dat (.int j)] => @ite _ (Sm i ∧ Sm j) (Classical.propDecidable _) (.ok (.rng i 1 (j - i).toNat) h) .bad
  | _ => .bad
def kRng3 (vs : List Val) (h : Hep) : Out Src := match vs with
  | [.dat (.int i), .dat (.int j), .dat (.int c)] => if c ≠ 0 ∧ c.natAbs < 1073741824 ∧ Builtin.Range.small i j c = true ∧ Builtin.Range.rangeSize i j c = ((Builtin.Range.rangeSize i j c).toNat : Nat) then .ok (.rng i c (Builtin.Range.rangeSize i j c).toNat) h else .bad
  | _ => .bad
def kEnum (vs : List Val) (h : Hep) : Out Src := match vs with
  | [v] => (match itmsD h v with
    | some _ => .ok (.enum v 0) h
    | none => .bad)
  | _ => .bad
noncomputable def kEnum2 (vs : List Val) (h : Hep) : Out Src := match vs with
  | [v, .dat (.int k)] => (match itmsD h v with
    | some _ => @ite _ (Sm k) (Classical.propDecidable _) (.ok (.enum v k) h) .bad
    | none => .bad)
  | _ => .bad
def kZip (vs : List Val) (h : Hep) : Out Src := match vs with
  | [v, w] => (match itmsD h v, itmsD h w with
    | some _, some _ => .ok (.zip v w) h
    | _, _ => .bad)
  | _ => .bad
def mIta (k : List Val → Hep → Out Src) (m : Env → Hep → Out (List Val)) : Env → Hep → Out Src := fun env h => (m env h).bind k
section
variable {G : Gh} {W : WX} {X : Cx} {tg e a b c : Expr} {pos p tpos : Pos} {m : ME} {ma : Env → Hep → Out (List Val)} {elts : List Expr} {kk : Nat}
theorem i_of (he : JE G W X e m) : JI G W X tg e (mIt m) := by
  refine PI.to (pi_dk he) fun σ H R r => ?_
  refine rX.seq (R := RV (wd G X)) (f := fun v _ h1 => kIt v h1) r fun v x ρ1 H1 env h1 S1 r1 w1 => ?_
  unfold kIt at w1
  split at w1
  · rename_i o q
    have fin := w1.ok S1.hp (rit_of (k := kOf v x) rfl r1)
    rw [itm_of] at q
    unfold itmV at q
    have data : ∀ xs, itmsD h1 v = some xs → ∃ k xs, x = DK.val k ∧ k.rd X.K H1 xs ∧ R (ItD X.K k) H1 := fun xs e => by
      obtain ⟨vs, e1, rd, rs⟩ := src_at S1.hp r1 e
      exact ⟨kOf v x, vs, e1, rd, fin⟩
    cases v with
    | ref n =>
      simp only at q
      split at q
      · rename_i xs q'
        exact data xs (by simp [itmsD, toDat, q'])
      · rename_i ns q'
        obtain ⟨l, vs, e1, e2, e3, e4⟩ := refs_at S1.hp r1 q'
        subst e1
        exact ⟨.lst l, vs, rfl, .of e2, fin⟩
      · cases q
    | dat d =>
      simp only at q
      split at q
      · rename_i xs q'
        exact data xs q'
      · cases q
    | scr d =>
      simp only at q
      split at q
      · rename_i xs q'
        exact data xs q'
      · cases q
    | thk =>
      simp only at q
      split at q
      · rename_i xs q'
        exact data xs q'
      · cases q
    | exc d =>
      simp only at q
      split at q
      · rename_i xs q'
        exact data xs q'
      · cases q
  · exact w1.elim
theorem i_rng1 (hg : Gl X "range") (hm : X.mg "range" = none) (ha : JA G W X [a] ma) (hs : starEach [a] X.env = [(false, eval a X.env)] := by rfl) : JI G W X tg (.Call (.Name "range" p) [a] [] pos) (mIta kRng1 ma) := by
  refine PI.to (pi_range1 hg hm ha hs) fun σ H R r => ?_
  refine rX.seq (R := RVs (wd G X)) (f := fun v _ h1 => kRng1 v h1) r fun vs us ρ1 H1 env h1 S1 r1 w1 => ?_
  unfold kRng1 at w1
  split at w1
  · rename_i j
    split at w1
    · rename_i hj
      cases r1 with
      | cons r1 r2 =>
        cases r2
        have e : _ = V.int j := r1
        subst e
        exact ⟨j, rfl, hj.1, hj.2, w1.ok S1.hp (rit_rng1 0 _)⟩
    · exact w1.elim
  · exact w1.elim
theorem i_rng2 (hg : Gl X "range") (hm : X.mg "range" = none) (ha : JA G W X [a, b] ma) (hs : starEach [a, b] X.env = [(false, eval a X.env), (false, eval b X.env)] := by rfl) (hs2 : starEach [b] X.env = [(false, eval b X.env)] := by rfl) :
    JI G W X tg (.Call (.Name "range" p) [a, b] [] pos) (mIta kRng2 ma) := by
  refine PI.to (pi_range2 hg hm ha hs hs2) fun σ H R r => ?_
  refine rX.seq (R := RVs (wd G X)) (f := fun v _ h1 => kRng2 v h1) r fun vs us ρ1 H1 env h1 S1 r1 w1 => ?_
  unfold kRng2 at w1
  split at w1
  · rename_i i j
    split at w1
    · rename_i hj
      cases r1 with
      | cons r1 r2 =>
        cases r2 with
        | cons r2 r3 =>
          cases r3
          have e : _ = V.int i := r1
          have e2 : _ = V.int j := r2
          subst e
          subst e2
          exact ⟨i, j, rfl, ⟨hj.1.1, hj.1.2, hj.2.1, hj.2.2⟩, w1.ok S1.hp (rit_rng1 _ _)⟩
    · exact w1.elim
  · exact w1.elim
theorem i_rng3 (hg : Gl X "range") (hm : X.mg "range" = none) (ha : JA G W X [a, b, c] ma) (hs : starEach [a, b, c] X.env = (false, eval a X.env) :: starEach [b, c] X.env := by rfl) (hpl : (backTo pos (starEach [b, c] X.env)).any (·.1) = false := by rfl) :
    JI G W X tg (.Call (.Name "range" p) [a, b, c] [] pos) (mIta kRng3 ma) := by
  refine PI.to (pi_range3 hg hm ha hs hpl) fun σ H R r => ?_
  refine rX.seq (R := RVs (wd G X)) (f := fun v _ h1 => kRng3 v h1) r fun vs us ρ1 H1 env h1 S1 r1 w1 => ?_
  unfold kRng3 at w1
  split at w1
  · rename_i i j c
    split at w1
    · rename_i hj
      cases r1 with
      | cons r1 r2 =>
        cases r2 with
        | cons r2 r3 =>
          cases r3 with
          | cons r3 r4 =>
            cases r4
            have e : _ = V.int i := r1
            have e2 : _ = V.int j := r2
            have e3 : _ = V.int c := r3
            subst e
            subst e2
            subst e3
            exact ⟨i, j, c, _, rfl, hj, w1.ok S1.hp (rit_rng _ _ _)⟩
    · exact w1.elim
  · exact w1.elim
theorem i_enum (hg : Gl X "enumerate") (hm : X.mg "enumerate" = none) (ha : JA G W X [a] ma) (hs : starEach [a] X.env = [(false, eval a X.env)] := by rfl) : JI G W X (.Tuple elts kk tpos) (.Call (.Name "enumerate" p) [a] [] pos) (mIta kEnum ma) := by
  refine PI.to (pi_en hg hm ha hs) fun σ H R r => ?_
  refine rX.seq (R := RVs (wd G X)) (f := fun v _ h1 => kEnum v h1) r fun vs us ρ1 H1 env h1 S1 r1 w1 => ?_
  unfold kEnum at w1
  split at w1
  · rename_i v
    split at w1
    · rename_i xs q
      cases r1 with
      | cons r1 r2 =>
        cases r2
        obtain ⟨ws, e1, rd, rs⟩ := src_at S1.hp r1 q
        exact ⟨_, _, ws, rfl, ⟨e1, rd⟩, w1.ok S1.hp (rit_enum rfl r1)⟩
    · exact w1.elim
  · exact w1.elim
theorem i_enum2 (hg : Gl X "enumerate") (hm : X.mg "enumerate" = none) (ha : JA G W X [a, b] ma) (hs : starEach [a, b] X.env = (false, eval a X.env) :: starEach [b] X.env := by rfl) (hpl : (backTo pos (starEach [b] X.env)).any (·.1) = false := by rfl) :
    JI G W X (.Tuple elts kk tpos) (.Call (.Name "enumerate" p) [a, b] [] pos) (mIta kEnum2 ma) := by
  refine PI.to (pi_en2 hg hm ha hs hpl) fun σ H R r => ?_
  refine rX.seq (R := RVs (wd G X)) (f := fun v _ h1 => kEnum2 v h1) r fun vs us ρ1 H1 env h1 S1 r1 w1 => ?_
  unfold kEnum2 at w1
  split at w1
  · rename_i v k
    split at w1
    · rename_i xs q
      split at w1
      · rename_i hk
        cases r1 with
        | cons r1 r2 =>
          cases r2 with
          | cons r2 r3 =>
            cases r3
            have e : _ = V.int k := r2
            subst e
            obtain ⟨ws, e1, rd, rs⟩ := src_at S1.hp r1 q
            exact ⟨_, _, ws, k, rfl, ⟨e1, rd⟩, ⟨by have := hk.1; omega, by have := hk.2; omega⟩, w1.ok S1.hp (rit_enum rfl r1)⟩
      · exact w1.elim
    · exact w1.elim
  · exact w1.elim
theorem i_zip (hg : Gl X "zip") (hm : X.mg "zip" = none) (ha : JA G W X [a, b] ma) (hs : starEach [a, b] X.env = (false, eval a X.env) :: starEach [b] X.env := by rfl) (hpl : (backTo pos (starEach [b] X.env)).any (·.1) = false := by rfl) :
    JI G W X (.Tuple elts kk tpos) (.Call (.Name "zip" p) [a, b] [] pos) (mIta kZip ma) := by
  refine PI.to (pi_z2 hg hm ha hs hpl) fun σ H R r => ?_
  refine rX.seq (R := RVs (wd G X)) (f := fun v _ h1 => kZip v h1) r fun vs us ρ1 H1 env h1 S1 r1 w1 => ?_
  unfold kZip at w1
  split at w1
  · rename_i v w
    split at w1
    · rename_i xs ys q q2
      cases r1 with
      | cons r1 r2 =>
        cases r2 with
        | cons r2 r3 =>
          cases r3
          obtain ⟨ws, e1, rd, rs⟩ := src_at S1.hp r1 q
          obtain ⟨ws2, e2, rd2, rs2⟩ := src_at S1.hp r2 q2
          exact ⟨_, _, _, _, ws, ws2, rfl, ⟨e1, rd⟩, ⟨e2, rd2⟩, w1.ok S1.hp (rit_zip rfl rfl r1 r2)⟩
    · exact w1.elim
  · exact w1.elim
end

/-! ### loops: as many steps as they take -/
open Classical in
noncomputable def steps {α : Type} (bad : α) (go : Nat → α) : α := if h : ∃ f, go f ≠ bad then go (Classical.choose h) else bad
theorem steps_ok {α : Type} {bad : α} {go : Nat → α} (h : steps bad go ≠ bad) : ∃ f, go f = steps bad go := by
  unfold steps at h ⊢
  split
  · rename_i q
    exact ⟨_, rfl⟩
  · rename_i q
    rw [dif_neg q] at h
    exact (h rfl).elim
theorem steps_eq {α : Type} {bad : α} {go : Nat → α} (mono : ∀ f, go f ≠ bad → go (f + 1) = go f) {f : Nat} (h : go f ≠ bad) : steps bad go = go f := by
  have le : ∀ f k, go f ≠ bad → go (f + k) = go f := fun f k hf => by
    induction k with
    | zero => rfl
    | succ k ih =>
      have : go (f + k) ≠ bad := by rw [ih]; exact hf
      rw [show f + (k + 1) = (f + k) + 1 from rfl, mono _ this, ih]
  unfold steps
  have ex : ∃ f, go f ≠ bad := ⟨f, h⟩
  rw [dif_pos ex]
  have h2 := Classical.choose_spec ex
  rcases Nat.le_total f (Classical.choose ex) with l | l
  · obtain ⟨k, e⟩ := Nat.exists_eq_add_of_le l
    rw [e]
    exact le f k h
  · obtain ⟨k, e⟩ := Nat.exists_eq_add_of_le l
    have := le _ k h2
    rw [← e] at this
    exact this.symm
/-- what follows a turn -/
def SOut.turn (o : SOut) (again : MS) : SOut := match o with
  | .nx env h => again env h
  | .ct env h => again env h
  | .bk env h => .nx env h
  | .rt v h => .rt v h
  | .er e env h => .er e env h
  | .bad => .bad
def whGo (c : Env → Hep → Out Bool) (b : MS) : Nat → MS
  | 0 => fun _ _ => .bad
  | f + 1 => fun env h => (c env h).st env fun k h1 => if k = true then (b env h1).turn (whGo c b f) else .nx env h1
noncomputable def mWhile (c : Env → Hep → Out Bool) (b : MS) : MS := fun env h => steps .bad fun f => whGo c b f env h
def forGo (tg : Tgt) (b : MS) (s : Src) : Nat → Nat → MS
  | 0, _ => fun _ _ => .bad
  | f + 1, i => fun env h => match s.itm i h with
    | none => .bad
    | some none => .nx env h
    | some (some d) => (match asgT tg d env with
      | none => .bad
      | some env1 => (b env1 h).turn (forGo tg b s f (i + 1)))
noncomputable def mFor (tg : Tgt) (mi : Env → Hep → Out Src) (b : MS) : MS := fun env h => (mi env h).st env fun s h1 => steps .bad fun f => forGo tg b s f 0 env h1
section
variable {D : Wd} {W : WX} {E : Ends} {ρ : Rho} {H : Hp}
theorem Ws.turn {o : SOut} {again : MS} (w : Ws D W E ρ H (o.turn again)) {N : L2.St → Hp → Prop} (hN : ∀ ρ' H' σ' env h, Step ρ H ρ' H' → Sim D σ' H' ρ' env h → Ws D W E ρ' H' (again env h) → N σ' H') :
    Ws D W { E with nx := N, ct := N, bk := E.nx } ρ H o := by
  cases o with
  | bad => exact w
  | nx env h => exact fun ρ' H' σ' st S => hN ρ' H' σ' env h st S (Ws.step st w)
  | ct env h => exact fun ρ' H' σ' st S => hN ρ' H' σ' env h st S (Ws.step st w)
  | bk env h => exact w
  | rt v h => exact w
  | er e env h => exact w
theorem not_bad {o : SOut} (w : Ws D W E ρ H o) : o ≠ .bad := fun e => by rw [e] at w; exact w
end
section
variable {G : Gh} {W : WX} {X : Cx} {tg iter c : Expr} {pos : Pos} {body : List Stmt} {tc : Env → Hep → Out Bool} {mi : Env → Hep → Out Src} {mb : MS} {t : Tgt}
theorem s_while (hp : PassesOwn (model X.prog X.w) X.A X.env X.xe) (hc : JT G W X c tc) (hb : JSs G W X body mb) : JS G W X (.While c body [] pos) (mWhile tc mb) := by
  refine PS.to (ps_while hp hc hb) fun E σ H r => ?_
  obtain ⟨ρ, env, h, S, w⟩ := r
  obtain ⟨f, hf⟩ := steps_ok (not_bad w)
  unfold mWhile at w
  rw [← hf] at w
  refine ⟨fun m σ H => ∃ ρ env h, Sim (wd G X) σ H ρ env h ∧ Ws (wd G X) W E ρ H (whGo tc mb m env h), ⟨f, ρ, env, h, S, w⟩, ?_⟩
  rintro m σ1 H1 ⟨ρ1, env1, h1, S1, w1⟩
  cases m with
  | zero => exact w1.elim
  | succ m =>
    refine rS.seq (E := E) (R := RB) (f := fun k env h2 => if k = true then (mb env h2).turn (whGo tc mb m) else .nx env h2) ⟨ρ1, env1, h1, S1, w1⟩ fun k d ρ2 H2 env2 h2 S2 r2 w2 => ?_
    cases r2
    cases k with
    | true =>
      rw [if_pos rfl] at w2 ⊢
      exact ⟨fun σ' H' => ∃ ρ env h, Sim (wd G X) σ' H' ρ env h ∧ Ws (wd G X) W E ρ H' (whGo tc mb m env h), fun σ' H' q => ⟨m, Nat.lt_succ_self _, q⟩, ρ2, env2, h2, S2, w2.turn fun ρ' H' σ' env h st S w => ⟨ρ', env, h, S, w⟩⟩
    | false =>
      rw [if_neg Bool.false_ne_true] at w2 ⊢
      exact w2.nx S2
theorem s_for (hp : PassesOwn (model X.prog X.w) X.A X.env X.xe) (hc : X.calm = true) (hi : JI G W X tg iter mi) (hg : JG G X tg t) (hb : JSs G W X body mb) (hs : ∀ x, foldedSetIterable iter X.env x = pure x := by intro _; rfl) : JS G W X (.For tg iter body [] pos) (mFor t mi mb) := by
  refine PS.to (ps_for hp hc hi hg hb hs) fun E σ H r => ?_
  refine rS.seq (E := E) (R := RIt (wd G X)) (f := fun s env h1 => steps .bad fun f => forGo t mb s f 0 env h1) r fun s J ρ0 H0 env0 h0 S0 r0 w0 => ?_
  obtain ⟨f, hf⟩ := steps_ok (not_bad w0)
  rw [← hf] at w0
  refine ⟨fun i m σ H => ∃ ρ env h, Step ρ0 H0 ρ H ∧ Sim (wd G X) σ H ρ env h ∧ Ws (wd G X) W E ρ H (forGo t mb s m i env h), ⟨f, ρ0, env0, h0, .refl, S0, w0⟩, ?_⟩
  rintro i m σ1 H1 ⟨ρ1, env1, h1, st1, S1, w1⟩
  cases m with
  | zero => exact w1.elim
  | succ m =>
    have q := r0 i H1 ρ1 h1 st1 S1.hp
    unfold forGo at w1
    split at w1
    · exact w1.elim
    · rename_i e
      exact .inl ⟨q.2 e, w1.nx S1⟩
    · rename_i d e
      obtain ⟨go, hy⟩ := q.1 d e
      refine .inr ⟨go, fun σ' H' => ∃ ρ env h, Step ρ0 H0 ρ H' ∧ Sim (wd G X) σ' H' ρ env h ∧ Ws (wd G X) W E ρ H' (forGo t mb s m (i + 1) env h), fun σ' H' q => ⟨m, Nat.lt_succ_self _, q⟩, fun x H2 y2 => ?_⟩
      obtain ⟨st2, S2, r2⟩ := hy x H2 y2
      split at w1
      · exact w1.elim
      · rename_i env2 ea
        refine ⟨ρ1, env1, h1, d, env2, S1.step st2 S2, r2, ea, fun σ' _ S' => ⟨ρ1, env2, h1, S', ?_⟩⟩
        exact (Ws.step st2 w1).turn fun ρ' H' σ' env h st S w => ⟨ρ', env, h, (st1.trans st2).trans st, S, w⟩
end
end Vi
end Vi8_

section Vi9_
set_option Elab.async false
set_option linter.all false
set_option maxRecDepth 100000
namespace Vi
open PySem PySem.Spec PyProof.Rows L2

/-! ### comprehensions -/
abbrev W0 : WX := fun _ _ _ _ => False
def Out.noEr {α : Type} (o : Out α) : Out α := match o with
  | .ok a h => .ok a h
  | _ => .bad
@[simp] theorem Out.noEr_ok {α : Type} {a : α} {h : Hep} : (Out.ok a h).noEr = .ok a h := rfl
@[simp] theorem Out.noEr_er {α : Type} {e : Err} {h : Hep} : (Out.er e h : Out α).noEr = .bad := rfl
@[simp] theorem Out.noEr_bad {α : Type} : (Out.bad : Out α).noEr = .bad := rfl
/-- the own names of a block are forgotten -/
def wipeE (env : Env) : List Nat → Env
  | [] => env
  | v :: vs => (wipeE env vs).set v none
theorem EnvR.wipe {K G H ρ env σ} (r : EnvR K G H ρ env σ) : ∀ vs, EnvR K G H ρ (wipeE env vs) (L2.wipe σ vs)
  | [] => r
  | v :: vs => by
    have q := EnvR.wipe r vs
    refine ⟨by unfold wipeE L2.wipe; simp [q.len], fun i d e => ?_⟩
    unfold wipeE at e
    unfold L2.wipe
    by_cases hi : v = i
    · subst hi
      by_cases hv : v < (wipeE env vs).length
      · rw [List.getElem?_set_self hv] at e; cases e
      · rw [List.getElem?_eq_none (by simpa using hv)] at e; cases e
    · rw [List.getElem?_set_ne hi] at e ⊢
      exact q.at_ i d e
theorem set_self {α : Type} : ∀ {l : List α} {i : Nat} {a : α}, l[i]? = some a → l.set i a = l
  | [], _, _, _ => rfl
  | x :: l, 0, a, e => by
    rw [List.getElem?_cons_zero] at e
    cases e
    rfl
  | x :: l, i + 1, a, e => by
    rw [List.set_cons_succ, set_self (by simpa using e)]
theorem wipe_ext {σ σ' : L2.St} : ∀ {vs : List Nat}, σ'.length = σ.length → (∀ j, j ∉ vs → σ'[j]? = σ[j]?) → L2.wipe σ' vs = L2.wipe σ vs := fun {vs} hl hj => by
  apply List.ext_getElem?
  intro j
  by_cases h : j ∈ vs
  · have key : ∀ (τ : L2.St) (us : List Nat), j ∈ us → (L2.wipe τ us)[j]? = if j < τ.length then some none else none := fun τ us => by
      induction us with
      | nil => intro z; cases z
      | cons u us ih =>
        intro hm
        unfold L2.wipe
        by_cases hu : u = j
        · subst hu
          by_cases hlt : u < (L2.wipe τ us).length
          · rw [List.getElem?_set_self hlt, if_pos (by rwa [wipe_length] at hlt)]
          · rw [List.getElem?_eq_none (by simpa using hlt), if_neg (by rwa [wipe_length] at hlt)]
        · rw [List.getElem?_set_ne hu]
          exact ih ((List.mem_cons.mp hm).resolve_left fun z => hu z.symm)
    rw [key _ _ h, key _ _ h, hl]
  · rw [wipe_out h, wipe_out h]
    exact hj j h
theorem wipe_wipe {σ : L2.St} {vs : List Nat} {l : List Nat} {σ' : L2.St} (s : SetsIn l (L2.wipe σ vs) σ') (hl : ∀ i ∈ l, i ∈ vs) : L2.wipe σ' vs = L2.wipe σ vs :=
  wipe_ext (s.1.trans (wipe_length σ vs)) fun j hj => (s.2 j fun z => hj (hl j z)).trans (wipe_out hj)
/-- the new item goes to the cell n: data to data, cells to cells -/
def putC (n : Nat) (v : Val) (h : Hep) : Option Hep := match v, h[n]? with
  | .dat d, some (.lst acc) => if acc.length < sizeLine then some (h.set n (.lst (acc ++ [d]))) else none
  | .ref m, some (.refs acc) => if acc.length < sizeLine then some (h.set n (.refs (acc ++ [m]))) else none
  | _, _ => none
/-- the turns of [elt for tg in s if ..], the new list the cell n -/
def lcGo (tg : Tgt) (mt : Env → Hep → Out Bool) (me : ME) (n : Nat) (s : Src) (env : Env) : Nat → Nat → Hep → Out Unit
  | 0, _ => fun _ => .bad
  | f + 1, i => fun h => match s.itm i h with
    | none => .bad
    | some none => .ok () h
    | some (some d) => (match asgT tg d env with
      | none => .bad
      | some env1 => (mt env1 h).noEr.bind fun k h1 => if k = true then (me env1 h1).noEr.bind fun v h2 => (match putC n v h2 with
          | some h3 => lcGo tg mt me n s env f (i + 1) h3
          | none => .bad) else lcGo tg mt me n s env f (i + 1) h1)
/-- data: the new list is data at the end; cell: it stays a cell; refs: a cell of cells -/
inductive Mode where
  | data
  | cell
  | refs
def Mode.init : Mode → Cell
  | .refs => .refs []
  | _ => .lst []
noncomputable def lcEnd (md : Mode) (h1 h2 : Hep) : Out Val := match md with
  | .data => (match h2[h1.length]? with
    | some (.lst acc) => leave h1 (.dat (.list acc)) (h2.set h1.length .dead)
    | _ => .bad)
  | _ => if h1.length < h2.length then leave (h1 ++ [md.init]) (.ref h1.length) h2 else .bad
noncomputable def mLc (md : Mode) (tg : Tgt) (mi : Env → Hep → Out Src) (mt : Env → Hep → Out Bool) (me : ME) (vs : List Nat) : ME := fun env h =>
  (mi env h).bind fun s h1 => (steps .bad fun f => lcGo tg mt me h1.length s (wipeE env vs) f 0 (h1 ++ [md.init])).bind fun _ h2 => lcEnd md h1 h2
def JTs (G : Gh) (W : WX) (X : Cx) (ifs : List Expr) (m : Env → Hep → Out Bool) : Prop := PTs X ifs (rT (wd G X) W m)
theorem PTs.to {X : Cx} {e : List Expr} {t t' : TT} (h : PTs X e t) (hw : ∀ σ H Q, t' σ H Q → t σ H Q) : PTs X e t' := ⟨fun pins s σ H Q I q => h.run pins s σ H Q I (hw σ H Q q)⟩
def mYes : Env → Hep → Out Bool := fun _ h => .ok true h
section
variable {G : Gh} {W : WX} {X : Cx} {c : Expr} {tc : Env → Hep → Out Bool}
theorem ts_nil : JTs G W X [] mYes := PTs.to pts_nil fun σ H Q r => by
  obtain ⟨ρ, env, h, S, w⟩ := r
  exact w.ok S.hp rfl
theorem ts_one (h : JT G W X c tc) : JTs G W X [c] tc := pts_one h
end
section
variable {D : Wd} {W : WX} {α β : Type} {R : Hp → Rho → α → β → Prop} {σ : L2.St} {ρ : Rho} {H : Hp}
theorem Wp.noEr {o : Out α} {Q : β → Hp → Prop} (w : Wp D W R σ ρ H o.noEr Q) : Wp D W0 R σ ρ H o Q := by
  cases o with
  | bad => exact w
  | ok a h => exact w
  | er e h => exact w.elim
theorem wp_not_bad {o : Out α} {Q : β → Hp → Prop} (w : Wp D W R σ ρ H o Q) : o ≠ .bad := fun e => by rw [e] at w; exact w
end
/-- a def or a comprehension is left with its value -/
theorem wp_leave {D : Wd} {W : WX} {σ : L2.St} {ρ0 ρ : Rho} {H0 H : Hp} {h0 h : Hep} {v : Val} {b : V} {Q : VK} (w : Wp D W (RV D) σ ρ0 H0 (leave h0 v h) Q) (s0 : SimH D.K D.G H0 ρ0 h0) (st : Step ρ0 H0 ρ H) (s : SimH D.K D.G H ρ h) (r : RepV D.K D.G H ρ v b) : Q b H := by
  unfold leave at w
  split at w
  · rename_i cl
    obtain ⟨ρ', st', s', kp, rf⟩ := trim_ok s0 st s
    refine w ρ' H b st' s' ?_
    cases v with
    | dat d => exact r.keep kp
    | ref n => exact rf n b cl r
    | scr ns =>
      obtain ⟨a, e, q⟩ := r
      rcases q with ⟨⟨o, q⟩, n⟩ | q
      · have z := kp a _ q n fun ps z => by cases z
        exact ⟨a, e, .inl ⟨⟨o, z.1⟩, z.2⟩⟩
      · exact ⟨a, e, .inr q⟩
    | thk => exact r
    | exc e => exact r
  · exact w ρ H b st s r
/-- the item goes to the cell -/
theorem putC_ok {K G H ρ h n v h3} {D0 : Addr} {y : V} (S : SimH K G H ρ h) (hD : ρ[n]? = some (some D0)) (r : RepV K G H ρ v y) (e : putC n v h = some h3) :
    ∃ acc, H D0 = some (.lst acc) ∧ acc.length < sizeLine ∧ Step ρ H ρ (upd H D0 (.lst (acc ++ [y]))) ∧ SimH K G (upd H D0 (.lst (acc ++ [y]))) ρ h3 := by
  unfold putC at e
  split at e
  · rename_i d acc hn
    split at e
    · rename_i hz
      cases e
      obtain ⟨a, e1, vs, e2, rs⟩ := S.alive hn (by simp)
      rw [hD] at e1
      cases e1
      have st : Step ρ H ρ (upd H D0 (.lst (vs ++ [y]))) := S.stepSet hD
      exact ⟨vs, e2, by rw [rs.len]; exact hz, st, S.set hD ⟨_, upd_same, (rs.append (Reps.one r)).step st⟩⟩
    · cases e
  · rename_i m acc hn
    split at e
    · rename_i hz
      cases e
      obtain ⟨a, e1, vs, e2, hl, rs⟩ := S.alive hn (by simp)
      rw [hD] at e1
      cases e1
      have st : Step ρ H ρ (upd H D0 (.lst (vs ++ [y]))) := S.stepSet hD
      refine ⟨vs, e2, by rw [hl]; exact hz, st, S.set hD ⟨_, upd_same, by simp [hl], fun i m' v' e1 e2 => ?_⟩⟩
      by_cases hi : i < acc.length
      · rw [List.getElem?_append_left hi] at e1
        rw [List.getElem?_append_left (by rw [hl]; exact hi)] at e2
        exact (rs i m' v' e1 e2)
      · rw [List.getElem?_append_right (by omega)] at e1
        rw [List.getElem?_append_right (by rw [hl]; omega)] at e2
        rw [hl] at e2
        cases q : i - acc.length with
        | zero =>
          rw [q] at e1 e2
          simp at e1 e2
          subst e1
          subst e2
          exact r
        | succ k => rw [q] at e1; simp at e1
    · cases e
  · cases e
section
variable {G : Gh} {W : WX} {X : Cx} {elt tg iter : Expr} {ifs : List Expr} {scope : Scope} {own : List (Str × Nat)} {pos : Pos} {mi : Env → Hep → Out Src} {mt : Env → Hep → Out Bool} {me : ME} {t : Tgt}
theorem lc_reads (md : Mode) (hown : ∀ i ∈ t.ixs, i ∈ own.map (·.2)) {σ : L2.St} {H : Hp} {Q : VK} (r : rE (wd G X) W (mLc md t mi mt me (own.map (·.2))) σ H Q) :
    tLc (rX (wd G X) W (RIt (wd G X)) mi) (rG (wd G X) t) (rT (wd G X) W0 mt) (rE (wd G X) W0 me) (own.map (·.2)) σ H Q := by
  refine rX.seq (R := RIt (wd G X)) (f := fun s env h1 => (steps .bad fun f => lcGo t mt me h1.length s (wipeE env (own.map (·.2))) f 0 (h1 ++ [md.init])).bind fun _ h2 => lcEnd md h1 h2) r fun s J ρ1 H1 env h1 S1 r1 w1 => ?_
  intro D0 hD0
  -- the new list
  have st0 : Step ρ1 H1 (ρ1 ++ [some D0]) (upd H1 D0 (.lst [])) := S1.hp.stepCell hD0
  have Sm : SimH X.K G (upd H1 D0 (.lst [])) (ρ1 ++ [some D0]) (h1 ++ [md.init]) := by
    refine S1.hp.cell hD0 ?_
    cases md with
    | data => exact ⟨[], upd_same, rfl⟩
    | cell => exact ⟨[], upd_same, rfl⟩
    | refs => exact ⟨[], upd_same, rfl, fun i n v e => by simp at e⟩
  have nb : steps .bad (fun f => lcGo t mt me h1.length s (wipeE env (own.map (·.2))) f 0 (h1 ++ [md.init])) ≠ .bad := fun e => by
    rw [e] at w1
    exact w1
  obtain ⟨f, hf⟩ := steps_ok nb
  rw [← hf] at w1
  have hD1 : (ρ1 ++ [some D0])[h1.length]? = some (some D0) := by
    rw [← S1.hp.len, List.getElem?_append_right (Nat.le_refl _)]
    simp
  -- where D0 stands later on
  have stays : ∀ {ρ' H'}, Step (ρ1 ++ [some D0]) (upd H1 D0 (.lst [])) ρ' H' → ∀ {h'}, SimH X.K G H' ρ' h' → ∀ c, h'[h1.length]? = some c → c ≠ .dead → ρ'[h1.length]? = some (some D0) := fun {ρ' H'} st {h'} S' c e nd => by
    obtain ⟨a, e1, _⟩ := S'.alive e nd
    have q := st.live h1.length a (by rw [List.length_append, ← S1.hp.len]; simp) e1
    rw [hD1] at q
    cases q
    exact e1
  -- the end
  have fin : ∀ {ρ' H'} {h' : Hep}, Step (ρ1 ++ [some D0]) (upd H1 D0 (.lst [])) ρ' H' → SimH X.K G H' ρ' h' → Wp (wd G X) W (RV (wd G X)) σ ρ1 H1 (lcEnd md h1 h') Q → Q (.ref D0) H' := fun {ρ' H' h'} st S' w => by
    unfold lcEnd at w
    have refl : ∀ {c}, h1.length < h'.length → Wp (wd G X) W (RV (wd G X)) σ ρ1 H1 (leave (h1 ++ [c]) (.ref h1.length) h') Q → SimH X.K G (upd H1 D0 (.lst [])) (ρ1 ++ [some D0]) (h1 ++ [c]) → Q (.ref D0) H' := fun {c} hl w Sc => by
      refine wp_leave (ρ0 := ρ1 ++ [some D0]) (H0 := upd H1 D0 (.lst [])) (Wp.step st0 w) Sc st S' ⟨by rw [S'.len]; exact hl, fun a e => ?_⟩
      have q := st.live h1.length a (by rw [List.length_append, ← S1.hp.len]; simp) e
      rw [hD1] at q
      cases q
      rfl
    cases md with
    | data =>
      simp only at w
      split at w
      · rename_i acc e
        have hD2 := stays st S' _ e (by simp)
        refine wp_leave (D := wd G X) w S1.hp ((st0.trans st).trans step_kill) (S'.kill h1.length) ?_
        exact S'.freeze hD2 e
      · exact w.elim
    | cell =>
      simp only at w
      split at w
      · rename_i hl
        exact refl hl w Sm
      · exact w.elim
    | refs =>
      simp only at w
      split at w
      · rename_i hl
        exact refl hl w Sm
      · exact w.elim
  refine ⟨fun i m H => ∃ ρ h, Step (ρ1 ++ [some D0]) (upd H1 D0 (.lst [])) ρ H ∧ SimH X.K G H ρ h ∧ Wp (wd G X) W (RV (wd G X)) σ ρ1 H1 ((lcGo t mt me h1.length s (wipeE env (own.map (·.2))) m i h).bind fun _ h2 => lcEnd md h1 h2) Q,
    ⟨f, ρ1 ++ [some D0], h1 ++ [md.init], .refl, Sm, w1⟩, ?_⟩
  rintro i m H2 ⟨ρ2, h2, st2, S2, w2⟩
  cases m with
  | zero => exact w2.elim
  | succ m =>
    have q := r1 i H2 ρ2 h2 (st0.trans st2) S2
    unfold lcGo at w2
    split at w2
    · exact w2.elim
    · rename_i e
      exact .inl ⟨q.2 e, fin st2 S2 w2⟩
    · rename_i d e
      obtain ⟨go, hy⟩ := q.1 d e
      refine .inr ⟨go, fun H => ∃ ρ h, Step (ρ1 ++ [some D0]) (upd H1 D0 (.lst [])) ρ H ∧ SimH X.K G H ρ h ∧ Wp (wd G X) W (RV (wd G X)) σ ρ1 H1 ((lcGo t mt me h1.length s (wipeE env (own.map (·.2))) m (i + 1) h).bind fun _ h2 => lcEnd md h1 h2) Q,
        fun H' q => ⟨m, Nat.lt_succ_self _, q⟩, fun x H3 y3 => ?_⟩
      obtain ⟨st3, S3, r3⟩ := hy x H3 y3
      split at w2
      · exact w2.elim
      · rename_i env2 ea
        have E3 : EnvR X.K G H3 ρ2 (wipeE env (own.map (·.2))) (L2.wipe σ (own.map (·.2))) := (S1.env.step ((st0.trans st2).trans st3)).wipe _
        refine ⟨ρ2, wipeE env (own.map (·.2)), h2, d, env2, ⟨S3, E3⟩, r3, ea, fun σ' hs' S' => ⟨wipe_wipe hs' hown, ?_⟩⟩
        -- the tests, the element
        have st3' := st2.trans st3
        refine rX.imp (R := RB) (Q := fun b H4 => ∃ ρ4 h4, Step (ρ1 ++ [some D0]) (upd H1 D0 (.lst [])) ρ4 H4 ∧ Sim (wd G X) σ' H4 ρ4 env2 h4 ∧ Wp (wd G X) W (RV (wd G X)) σ ρ1 H1 ((if b = true then (me env2 h4).noEr.bind fun v h2 => (match putC h1.length v h2 with
            | some h3 => lcGo t mt me h1.length s (wipeE env (own.map (·.2))) m (i + 1) h3
            | none => .bad) else lcGo t mt me h1.length s (wipeE env (own.map (·.2))) m (i + 1) h4).bind fun _ h2 => lcEnd md h1 h2) Q) ⟨ρ2, env2, h2, S', ?_⟩ fun b H4 hb => ?_
        · cases em : mt env2 h2 with
          | bad => rw [em] at w2; exact w2.elim
          | er e5 h5 => rw [em] at w2; exact w2.elim
          | ok b h5 =>
            rw [em] at w2
            intro ρ5 H5 b' st5 S5 rb
            cases rb
            exact ⟨ρ5, h5, st3'.trans st5, S'.step st5 S5, w2⟩
        · obtain ⟨ρ4, h4, st4, S4, w4⟩ := hb
          cases b with
          | false =>
            rw [if_neg Bool.false_ne_true] at w4 ⊢
            exact ⟨ρ4, h4, st4, S4.hp, w4⟩
          | true =>
            rw [if_pos rfl] at w4 ⊢
            refine ⟨ρ4, env2, h4, S4, ?_⟩
            cases em : me env2 h4 with
            | bad => rw [em] at w4; exact w4.elim
            | er e5 h5 => rw [em] at w4; exact w4.elim
            | ok v h5 =>
              rw [em] at w4
              intro ρ5 H5 y st5 S5 ry
              have w4 : Wp (wd G X) W (RV (wd G X)) σ ρ1 H1 (Out.bind (match putC h1.length v h5 with
                | some h3 => lcGo t mt me h1.length s (wipeE env (own.map (·.2))) m (i + 1) h3
                | none => .bad : Out Unit) fun _ h2 => lcEnd md h1 h2) Q := w4
              split at w4
              · rename_i h6 e6
                have live : ∃ c, h5[h1.length]? = some c ∧ c ≠ .dead := by
                  unfold putC at e6
                  split at e6
                  · rename_i q; exact ⟨_, q, by simp⟩
                  · rename_i q; exact ⟨_, q, by simp⟩
                  · cases e6
                obtain ⟨c, hc5, nd⟩ := live
                have hD5 := stays (st4.trans st5) S5 c hc5 nd
                obtain ⟨acc, a1, a2, a3, a4⟩ := putC_ok S5 hD5 ry e6
                exact ⟨acc, a1, a2, ρ5, h6, (st4.trans st5).trans a3, a4, w4⟩
              · exact w4.elim
theorem e_lc (md : Mode) {vs : List Nat} (hc : X.calm = true) (hN : X.N.Nodup) (hi : JI G W X tg iter mi) (ok : BlkOk X.N X.env.scope scope own) (hown : ∀ i ∈ t.ixs, i ∈ own.map (·.2))
    (hg : ∀ (s : Shared) (H : Hp) (C : Addr) (cl : List (Str × Addr)) (fp : List Addr), JG G (X.blk s H scope (compEnvC scope cl C X.env) fp) tg t)
    (ht : ∀ (s : Shared) (H : Hp) (C : Addr) (cl : List (Str × Addr)) (fp : List Addr), JTs G W0 (X.blk s H scope (compEnvC scope cl C X.env) fp) ifs mt)
    (he : ∀ (s : Shared) (H : Hp) (C : Addr) (cl : List (Str × Addr)) (fp : List Addr), JE G W0 (X.blk s H scope (compEnvC scope cl C X.env) fp) elt me) (hvs : own.map (·.2) = vs := by rfl) (hs : ∀ x, foldedSetIterable iter X.env x = pure x := by intro _; rfl) :
    JE G W X (.ListComp elt [⟨tg, iter, ifs, 0⟩] scope pos) (mLc md t mi mt me vs) := by
  subst hvs
  exact PE.to (pe_lc (g := rG (wd G X) t) (tt := rT (wd G X) W0 mt) (te := rE (wd G X) W0 me) hc hN hi ok hg ht he hs) fun σ H Q r => lc_reads md hown r
/-- name = [..], the name a local -/
theorem s_setLc (md : Mode) {vs : List Nat} {i : Nat} {y : Str} {py spos : Pos} (hc : X.calm = true) (hN : X.N.Nodup) (hy : X.N[i]? = some y) (hyl : X.env.scope.names.lookup y = some .local) (hi : JI G W X tg iter mi) (ok : BlkOk X.N X.env.scope scope own) (hown : ∀ i ∈ t.ixs, i ∈ own.map (·.2))
    (hg : ∀ (s : Shared) (H : Hp) (C : Addr) (cl : List (Str × Addr)) (fp : List Addr), JG G (X.blk s H scope (compEnvC scope cl C X.env) fp) tg t)
    (ht : ∀ (s : Shared) (H : Hp) (C : Addr) (cl : List (Str × Addr)) (fp : List Addr), JTs G W0 (X.blk s H scope (compEnvC scope cl C X.env) fp) ifs mt)
    (he : ∀ (s : Shared) (H : Hp) (C : Addr) (cl : List (Str × Addr)) (fp : List Addr), JE G W0 (X.blk s H scope (compEnvC scope cl C X.env) fp) elt me) (hvs : own.map (·.2) = vs := by rfl) (hs : ∀ x, foldedSetIterable iter X.env x = pure x := by intro _; rfl)
    (hsw : swapsWith (.ListComp elt [⟨tg, iter, ifs, 0⟩] scope pos) (some (.Name y py)) spos.line X.env = pure true := by rfl) :
    JS G W X (.Assign [.Name y py] (.ListComp elt [⟨tg, iter, ifs, 0⟩] scope pos) spos) (mSet i (mLc md t mi mt me vs)) := by
  subst hvs
  refine PS.to (ps_setLc (g := rG (wd G X) t) (tt := rT (wd G X) W0 mt) (te := rE (wd G X) W0 me) hc hN hy hyl hsw hi ok hg ht he hs) fun E σ H r => ?_
  refine lc_reads (W := W) md hown (rS.seq (R := RV (wd G X)) (f := fun v env h1 => .nx (env.set i (some v)) h1) r fun v x ρ1 H1 env h1 S1 r1 w1 => ?_)
  exact w1.nx (S1.set i r1)
end
end Vi
end Vi9_

section Vi10_
set_option Elab.async false
set_option linter.all false
set_option maxRecDepth 100000
namespace Vi
open PySem PySem.Spec PyProof.Rows L2

/-! ### defs -/
section
variable {D : Wd} {α β : Type} {R : Hp → Rho → α → β → Prop} {ρ : Rho} {H : Hp}
theorem Wp.at_ {W : WX} {σ σ' : L2.St} {o : Out α} {Q : β → Hp → Prop} (w : Wp D W R σ ρ H o Q) : Wp D (fun c d _ H => W c d σ H) R σ' ρ H o Q := by
  cases o with
  | bad => exact w
  | ok a h => exact w
  | er e h => exact w
end
/-- a def's promise, by its mirror -/
def spM (K : PySem.W.Frag) (mg : Str → Option Value) (T : List (Addr × Str)) (np : Nat) (mf : FL) : Sp := fun vs H Q E => vs.length = np ∧ ∃ (G : Gh) (ρ : Rho) (h : Hep) (args : List Val), G.T = T ∧ SimH K G H ρ h ∧ RVs ⟨K, mg, G⟩ H ρ args vs ∧
  Wp ⟨K, mg, G⟩ (fun cls dx _ H => E cls dx H) (RV ⟨K, mg, G⟩) [] ρ H (mf args h) Q
structure Fn (P : Program) (w : World) (K : PySem.W.Frag) (mg : Str → Option Value) (base : Heap) (T : List (Addr × Str)) (k : Nat) (x : Str) (np : Nat) (mf : FL) : Prop where
  ex : ∃ (f : Addr) (fd : FuncData) (ps : List Str), FnOk P w K mg base (L2.CX P w) k f fd ps (spM K mg T np mf) ∧ mg x = some (.ref f) ∧ PySem.W.keepIn K (.ref f) = true ∧ L2.Binds K fd ps []
/-- a call by name -/
def mApp (np : Nat) (mf : FL) (ma : Env → Hep → Out (List Val)) : ME := fun env h => (ma env h).bind fun as h1 => if as.length = np then mf as h1 else .bad
theorem Paired.len {α β : Type} {R : α → β → Prop} {l : List α} {m : List β} (h : Paired R l m) : l.length = m.length := by
  induction h with
  | nil => rfl
  | cons _ _ ih => simp [ih]
section
variable {G : Gh} {W : WX} {X : Cx} {e : Expr} {es : List Expr} {pos p : Pos} {ma : Env → Hep → Out (List Val)} {k np : Nat} {mf : FL} {x : Str}
theorem e_call (F : Fn X.prog X.w X.K X.mg X.base G.T k x np mf) (hr : Room k X.A) (tk : Takes X W) (hg : Gl X x) (ha : JA G W X (e :: es) ma) (hdb : (x == ("__debug__" : Str)) = false := by decide)
    (he : starEach (e :: es) X.env = (false, eval e X.env) :: starEach es X.env := by rfl) (hpl : (backTo pos (starEach es X.env)).any (·.1) = false := by rfl) : JE G W X (.Call (.Name x p) (e :: es) [] pos) (mApp np mf ma) := by
  obtain ⟨f, fd, ps, FO, hm, hk, hb⟩ := F.ex
  refine PE.to (pe_callS FO hr hg hm hk hb (E := WE W) (fun σ => passAt tk σ) ha hdb he hpl) fun σ H Q r => ?_
  refine rX.seq (R := RVs (wd G X)) (f := fun as _ h1 => if as.length = np then mf as h1 else .bad) r fun as vs ρ1 H1 env h1 S1 r1 w1 => ?_
  split at w1
  · rename_i hl
    exact ⟨by rw [← Paired.len r1]; exact hl, G, ρ1, h1, as, rfl, S1.hp, r1, w1.at_⟩
  · exact w1.elim
end
/-- what is let out of a def: its slots are gone -/
noncomputable def mFun (n : Nat) (body : MS) : FL := fun args h => match body (args.map some ++ List.replicate (n - args.length) none) h with
  | .rt v h1 => leave h v h1
  | .nx _ h1 => leave h (.dat .none) h1
  | .er e _ h1 => .er e (trim h h1)
  | _ => .bad
section
variable {P : Program} {w : World} {K : PySem.W.Frag} {mg : Str → Option Value} {base : Heap} {T : List (Addr × Str)} {k np : Nat} {x : Str} {params : Arguments} {body : List Stmt} {scope : Scope} {f : Addr} {fd : FuncData} {N ps : List Str} {mb : MS}
theorem start_env {G : Gh} {H : Hp} {ρ : Rho} {h : Hep} {args : List Val} {vs : List V} (S : SimH K G H ρ h) (r : RVs ⟨K, mg, G⟩ H ρ args vs) : Sim ⟨K, mg, G⟩ (L2.start N vs) H ρ (args.map some ++ List.replicate (N.length - args.length) none) h := by
  refine ⟨S, ?_⟩
  unfold L2.start
  have hl := Paired.len r
  rw [← hl]
  refine ⟨by simp [hl], fun i d e => ?_⟩
  by_cases hi : i < args.length
  · rw [List.getElem?_append_left (by simpa using hi)] at e
    rw [List.getElem?_append_left (by simpa [← hl] using hi)]
    rw [List.getElem?_map] at e ⊢
    have key : ∀ {as : List Val} {us : List V} (i : Nat) {d : Val}, RVs ⟨K, mg, G⟩ H ρ as us → as[i]? = some d → ∃ v, us[i]? = some v ∧ RepV K G H ρ d v := by
      intro as us i d r
      induction r generalizing i with
      | nil => intro e; simp at e
      | cons a t ih =>
        intro e
        cases i with
        | zero =>
          simp only [List.getElem?_cons_zero, Option.some.injEq] at e
          subst e
          exact ⟨_, rfl, a⟩
        | succ i =>
          obtain ⟨v, e1, e2⟩ := ih i (by simpa using e)
          exact ⟨v, by simpa using e1, e2⟩
    cases q : args[i]? with
    | none => rw [q] at e; cases e
    | some d' =>
      rw [q] at e
      cases e
      obtain ⟨v, e1, e2⟩ := key i r q
      exact ⟨v, by rw [e1]; rfl, e2⟩
  · rw [List.getElem?_append_right (by simpa using hi)] at e
    rw [List.getElem?_replicate] at e
    split at e
    · cases e
    · cases e
/-- the promise of a body's mirror -/
theorem body_reads {G : Gh} {H : Hp} {ρ : Rho} {h : Hep} {args : List Val} {vs : List V} {Q : VK} {E : XK} (S : SimH K G H ρ h) (r : RVs ⟨K, mg, G⟩ H ρ args vs) (hw : Wp ⟨K, mg, G⟩ (fun cls dx _ H => E cls dx H) (RV ⟨K, mg, G⟩) [] ρ H (mFun N.length mb args h) Q) :
    rS ⟨K, mg, G⟩ (fun cls dx _ H => E cls dx H) mb { nx := fun _ H' => Q .non H', rt := Q } (L2.start N vs) H := by
  refine ⟨ρ, _, h, start_env (mg := mg) S r, ?_⟩
  unfold mFun at hw
  revert hw
  cases q : mb (args.map some ++ List.replicate (N.length - args.length) none) h with
  | bad => exact fun w => w
  | bk env h1 => exact fun w => w.elim
  | ct env h1 => exact fun w => w.elim
  | rt v h1 => exact fun w ρ' H' b st S' rv => wp_leave (D := ⟨K, mg, G⟩) w S st S' rv
  | nx env h1 => exact fun w ρ' H' σ' st S' => wp_leave (D := ⟨K, mg, G⟩) w S st S'.hp rfl
  | er e env h1 =>
    intro w ρ' H' σ' cls dx st S' ea
    obtain ⟨ρ2, st2, S2, kp, _⟩ := trim_ok S st S'.hp
    exact w ρ2 H' cls dx st2 S2 (ea.keep kp)
theorem Fn.of (F : FunD K x x params body scope [] [] f fd) (hm : mg x = some (.ref f)) (Sc : FnScope N ps scope) (hp : ps.length = np) (hbind : ∀ (kV doc pm : Value) (an : Option Addr) (cdv ct : Value) (us : List Value), us.length = ps.length → bindArgs (PySem.W.fnOf x x params body scope .none kV doc pm an cdv ct) ⟨us, []⟩ = pure (ps.zip us))
    (hb : ∀ (G : Gh), G.T = T → ∀ (cdv : Value) (A : Around) (outer : List PySem.Env) (s : Shared) (H : Hp) (E : XK), Room k (A.deeper (envOfC x scope s.heap.objs.size f cdv)) → JSs G (fun cls dx _ H => E cls dx H) (cxOf (L2.CX P w) P w K mg base N x scope f cdv A outer s H E) body mb) :
    Fn P w K mg base T (k + 1) x np (mFun N.length mb) := by
  refine ⟨f, fd, ps, F.ok Sc (fun vs H Q E h => by rw [hp]; exact h.1) (fun cdv A outer s H vs Q E hr hsp => ?_), hm, F.kp, F.bindsN hbind⟩
  obtain ⟨hl, G, ρ, h, args, hT, S, r, hw⟩ := hsp
  exact ⟨_, hb G hT cdv A outer s H E hr, body_reads S r hw⟩
end
end Vi
end Vi10_

section Vi11_
set_option Elab.async false
set_option linter.all false
set_option maxRecDepth 100000
namespace Vi
open PySem PySem.Spec PyProof.Rows L2

/-! ### raise X() -/
section
variable {X : Cx} {C : Addr} {bmB : List Value} {B newId initId : String}
theorem pmk_own0 {x : Str} {p pos : Pos} (F : ExcBaseFacts B newId initId bmB) (q : PySem.W.excIn X.K C bmB newId = true) (gC : X.mg x = some (.ref C)) (kC : PySem.W.keepIn X.K (.ref C) = true) (r : Raises X (.ref C)) (hg : Gl X x)
    (hdb : (x == ("__debug__" : Str)) = false := by decide) : PMk X (.Call (.Name x p) [] [] pos) (fun _ H Q => Q (.ref C) none H) := by
  intro pins s σ H Q I h
  refine wpAny_Call_Name_kw (ld_glob I hg gC ?_ hdb)
  refine PySem.W.callWith_K0 I.kIn kC ?_
  show wpAny _ _ (call (.ref C) []) _ _ _
  obtain ⟨bm, N, nm, qn, bs, hdct, sn, sub, ab, col, dd, k0, k1, k2, k3, k5, mN, hC, hN, hni, T⟩ := exc_obj I.kIn q
  refine wpAny_call_exc_subT F T hC hN hni (fun h' e hm => ?_) (by show 0 ≤ sizeLine; rw [sizeLine_eq]; omega)
  exact mk_of I hm r h (I.hok.gone hm.new)
end
/-- what is known of an own class of errors -/
structure ExC (K : PySem.W.Frag) (mg : Str → Option Value) (x : Str) (C : Addr) : Prop where
  g : mg x = some (.ref C)
  ex : PySem.W.excIn K C He.veBase "ValueError.__new__" = true
  kp : PySem.W.keepIn K (.ref C) = true
  sb : PySem.W.subIn K (.ref C) (.type "BaseException") = some true
  ty : PySem.W.typeIn K (.ref C) = some (.type "type")
def mRaise (x : Str) : MS := fun env h => .er ⟨x, none⟩ env h
section
variable {G : Gh} {W : WX} {X : Cx} {x : Str} {C : Addr} {p pos pos' : Pos}
theorem s_raise (hc : X.calm = true) (tk : Takes X W) (ex : ExC X.K X.mg x C) (hg : Gl X x) (hdb : (x == ("__debug__" : Str)) = false := by decide) : JS G W X (.Raise (some (.Call (.Name x p) [] [] pos)) none pos') (mRaise x) := by
  refine PS.to (ps_raise hc tk (pmk_own0 PySem.F.excBase_ValueError ex.ex ex.g ex.kp (raises_own ex.sb ex.ty) hg hdb)) fun E σ H r => ?_
  obtain ⟨ρ, env, h, S, w⟩ := r
  exact w ρ H σ (.ref C) none .refl S ⟨C, ex.g, rfl, rfl⟩
end

/-! ### try: .. except S as n: .. -/
/-- the errors' classes: kn x y: is an error of x one of y -/
structure ExcW (K : PySem.W.Frag) (mg : Str → Option Value) (kn : Str → Str → Option Bool) : Prop where
  own : ∀ x y b C D, kn x y = some b → mg x = some (.ref C) → mg y = some (.ref D) → PySem.W.exmOne K (.ref C) (.ref D) = some b ∧ PySem.W.kitOne K (.ref C) (.ref D) = some b
  cc : ∀ x y b C, kn x y = some b → mg x = some (.ref C) → ExcC K C
  ve : ∀ x b C, kn x "ValueError" = some b → mg x = some (.ref C) → PySem.W.kitOne K (.ref C) (.type "ValueError") = some b
def Gh.at_ (G : Gh) (a : Addr) (e : Err) : Gh := { G with cur := some (a, e) }
def dropV : Option Val → Option Val
  | some (.exc _) => none
  | v => v
def dropX (env : Env) : Env := env.map dropV
def Val.noExc : Val → Bool
  | .exc _ => false
  | _ => true
theorem RepV.cur {K G H ρ d v} {c : Option (Addr × Err)} (hd : d.noExc = true) (r : RepV K G H ρ d v) : RepV K { G with cur := c } H ρ d v := by
  cases d with
  | exc e => cases hd
  | dat d => exact r
  | ref n => exact r
  | scr n => exact r
  | thk => exact r
theorem EnvR.cur {K G H ρ env σ} {c : Option (Addr × Err)} (r : EnvR K G H ρ env σ) : EnvR K { G with cur := c } H ρ (dropX env) σ :=
  ⟨by simp [dropX, r.len], fun i d e => by
    unfold dropX at e
    rw [List.getElem?_map] at e
    cases q : env[i]? with
    | none => rw [q] at e; cases e
    | some o =>
      rw [q] at e
      cases o with
      | none => cases e
      | some v =>
        cases v with
        | exc x => cases e
        | dat x => cases e; obtain ⟨u, e1, e2⟩ := r.at_ i _ q; exact ⟨u, e1, e2.cur rfl⟩
        | ref x => cases e; obtain ⟨u, e1, e2⟩ := r.at_ i _ q; exact ⟨u, e1, e2.cur rfl⟩
        | scr x => cases e; obtain ⟨u, e1, e2⟩ := r.at_ i _ q; exact ⟨u, e1, e2.cur rfl⟩
        | thk => cases e; obtain ⟨u, e1, e2⟩ := r.at_ i _ q; exact ⟨u, e1, e2.cur rfl⟩⟩
theorem SimH.cur {K G H ρ h} {c : Option (Addr × Err)} (s : SimH K G H ρ h) : SimH K { G with cur := c } H ρ h := ⟨s.len, s.one, s.cells, s.dead, s.tabs, s.inv⟩
theorem SimH.uncur {K G H ρ h} {c : Option (Addr × Err)} (s : SimH K { G with cur := c } H ρ h) : SimH K G H ρ h := ⟨s.len, s.one, s.cells, s.dead, s.tabs, s.inv⟩
theorem EnvR.setNone {K G H ρ env σ} (i : Nat) (r : EnvR K G H ρ env σ) : EnvR K G H ρ (env.set i none) (σ.set i none) :=
  ⟨by simp [r.len], fun j d e => by
    by_cases hj : i = j
    · subst hj
      by_cases hl : i < env.length
      · rw [List.getElem?_set_self hl] at e; cases e
      · rw [List.getElem?_eq_none (by simp; omega)] at e; cases e
    · rw [List.getElem?_set_ne hj] at e ⊢
      exact r.at_ j d e⟩
/-- behind an except suite -/
def SOut.unsuite (i : Nat) (o : SOut) : SOut := match o with
  | .nx env h => .nx ((dropX env).set i none) h
  | .bk env h => .bk ((dropX env).set i none) h
  | .ct env h => .ct ((dropX env).set i none) h
  | .rt v h => if v.noExc = true then .rt v h else .bad
  | _ => .bad
def mTryAs (kn : Str → Str → Option Bool) (S : Str) (i : Nat) (mb ms : MS) : MS := fun env h => match mb env h with
  | .er e env1 h1 => (match kn e.cls S with
    | some true => if e.fld = none then (ms ((dropX env1).set i (some (.exc e))) h1).unsuite i else .bad
    | some false => .er e env1 h1
    | none => .bad)
  | o => o
section
variable {G : Gh} {W : WX} {X : Cx} {kn : Str → Str → Option Bool} {x n : Str} {CS : Addr} {i : Nat} {body suite : List Stmt} {b₀ : Stmt} {np pos pos' : Pos} {mb ms : MS}
theorem s_tryAs (hs : X.stack = X.env :: X.outer) (hf : X.env.frame = some X.env.locals) (hN : X.N.Nodup) (hi : X.N[i]? = some n) (hln : X.env.kindOf n = some .local) (ew : ExcW X.K X.mg kn) (hmx : X.mg x = some (.ref CS)) (hgx : Gl X x) (tk : Takes X W)
    (hb : ∀ (W' : WX) (pn : List (Addr × Obj)) (xe : Value → Shared → Prop), Takes (X.tr pn xe) W' → PassesOwn (model X.prog X.w) X.A X.env xe → JSs G W' (X.tr pn xe) body mb)
    (hsu : ∀ (a : Addr) (oe : Obj) (e : Err) (C : Addr) (pn : List (Addr × Obj)), X.mg e.cls = some (.ref C) → Zc (.ref C) none oe → (∃ vs, oe.data = .fields vs) → JSs (G.at_ a e) W0 (X.suite a ((a, oe) :: pn)) (b₀ :: suite) ms) (hdx : (x == ("__debug__" : Str)) = false := by decide) :
    JS G W X (.Try body [.ExceptHandler (some (.Name x np)) (some n) (b₀ :: suite) pos'] [] [] pos) (mTryAs kn x i mb ms) := by
  let ts : Addr → Value → Option Addr → TS := fun a cls d E σ H => ∃ (e : Err) (C : Addr), X.mg e.cls = some (.ref C) ∧ cls = .ref C ∧ d = none ∧ rS (wd (G.at_ a e) X) W0 ms E σ H
  refine PS.to (ps_try_as (tb := fun W' => rS (wd G X) W' mb) (ts := ts) (Wout := W) hs hf hN hi hln ⟨hgx, hdx, .inl hmx⟩ tk hb fun a oe cls d pn hz hd => ?_) fun E σ H r => ?_
  · refine ⟨fun pins s σ H E I h => ?_⟩
    obtain ⟨e, C, h1, h2, h3, r⟩ := h
    subst h2
    subst h3
    exact (hsu a oe e C pn h1 hz hd).run pins s σ H E I r
  · obtain ⟨ρ, env, h, S, w⟩ := r
    refine ⟨ρ, env, h, S, ?_⟩
    unfold mTryAs at w
    revert w
    cases q : mb env h with
    | bad => exact fun w => w
    | nx env1 h1 => exact fun w => w
    | bk env1 h1 => exact fun w => w
    | ct env1 h1 => exact fun w => w
    | rt v h1 => exact fun w => w
    | er e env1 h1 =>
      intro w ρ' H' σ' cls dx st S' ea
      obtain ⟨C, c1, c2, c3⟩ := ea
      subst c2
      simp only at w
      split at w
      · rename_i ek
        refine ⟨true, (ew.own _ _ _ _ _ ek c1 hmx).1, fun _ a ha => ?_, fun z => by cases z⟩
        split at w
        · rename_i hfl
          rw [hfl] at c3
          refine ⟨e, C, c1, rfl, c3, ρ', (dropX env1).set i (some (.exc e)), h1, ⟨S'.hp.cur, S'.env.cur.set i ⟨a, rfl, rfl⟩⟩, ?_⟩
          -- behind the suite
          revert w
          cases q2 : ms ((dropX env1).set i (some (.exc e))) h1 with
          | bad => exact fun w => w
          | er e2 env2 h2 => exact fun w => w.elim
          | nx env2 h2 => exact fun w ρ2 H2 σ2 st2 S2 => w ρ2 H2 _ (st.trans st2) ⟨S2.hp.uncur, (S2.env.cur (c := G.cur)).setNone i⟩
          | bk env2 h2 => exact fun w ρ2 H2 σ2 st2 S2 => w ρ2 H2 _ (st.trans st2) ⟨S2.hp.uncur, (S2.env.cur (c := G.cur)).setNone i⟩
          | ct env2 h2 => exact fun w ρ2 H2 σ2 st2 S2 => w ρ2 H2 _ (st.trans st2) ⟨S2.hp.uncur, (S2.env.cur (c := G.cur)).setNone i⟩
          | rt v h2 =>
            intro w ρ2 H2 b st2 S2 rv
            unfold SOut.unsuite at w
            simp only at w
            split at w
            · rename_i hv
              exact w ρ2 H2 b (st.trans st2) S2.uncur (RepV.cur (G := G.at_ a e) (c := G.cur) hv rv)
            · exact w.elim
        · exact w.elim
      · rename_i ek
        refine ⟨false, (ew.own _ _ _ _ _ ek c1 hmx).1, fun z => (by cases z), fun _ => ?_⟩
        exact w ρ' H' σ' (.ref C) dx st S' ⟨C, c1, rfl, c3⟩
      · exact w.elim
end
/-- isinstance(e, C) of the error that the suite holds -/
def kIsE (kn : Str → Str → Option Bool) (y : Str) (v : Val) (h : Hep) : Out Val := match v with
  | .exc e => (match kn e.cls y with
    | some b => ok (.bool b) h
    | none => .bad)
  | _ => .bad
def mIsE (kn : Str → Str → Option Bool) (y : Str) (m : ME) : ME := fun env h => (m env h).bind (kIsE kn y)
section
variable {G : Gh} {X : Cx} {kn : Str → Str → Option Bool} {y : Str} {C D a : Addr} {oe : Obj} {e : Err} {pn : List (Addr × Obj)} {en fc : Expr} {p pos : Pos} {me : ME}
theorem isE_core {fv : V} {cv : Value} (ew : ExcW X.K X.mg kn) (h1 : X.mg e.cls = some (.ref C)) (hz : Zc (.ref C) none oe) (hf : ∃ vs, oe.data = .fields vs) (hu : ∀ u, RelV fv u → u = cv) (hk : ∀ b, kn e.cls y = some b → PySem.W.kitOne X.K (.ref C) cv = some b)
    (he : JE (G.at_ a e) W0 (X.suite a ((a, oe) :: pn)) en me) (hfc : PE (X.suite a ((a, oe) :: pn)) fc (tC fv)) (hg : Gl X "isinstance") (hm : X.mg "isinstance" = none)
    (hs : starEach [en, fc] X.env = (false, eval en X.env) :: starEach [fc] X.env := by rfl) (hs2 : starEach [fc] X.env = (false, eval fc X.env) :: starEach [] X.env := by rfl) (hpl : (backTo pos (starEach [fc] X.env)).any (·.1) = false := by rfl) :
    JE (G.at_ a e) W0 (X.suite a ((a, oe) :: pn)) (.Call (.Name "isinstance" p) [en, fc] [] pos) (mIsE kn y me) := by
  have hc : CallR (X.suite a ((a, oe) :: pn)) (.builtin "isinstance") (fun xs H Q => ExcC X.K C ∧ rIsE X.K C a xs H Q) := by
    intro pins s σ H xs us Q I r h
    exact call_isE (X := X) h.1 hz hf pins s σ H xs us Q I r h.2
  refine PE.to (pe_callB hc hg hm PyProof.Rows.boot_isinstance (pa_cons he (pa_cons hfc pa_nil hs2) hs) (by decide) (by decide) hs hpl) fun σ H Q r => ?_
  refine rX.seq (R := RV (wd (G.at_ a e) X)) (f := fun v _ h1 => kIsE kn y v h1) r fun v x ρ1 H1 env h5 S1 r1 w1 => ?_
  unfold kIsE at w1
  split at w1
  · rename_i e'
    obtain ⟨a', q1, q2⟩ := r1
    cases q1
    split at w1
    · rename_i b q
      exact ⟨ew.cc _ _ _ _ q h1, fv, cv, b, by rw [q2], hu, hk b q, Wp.dat w1 S1.hp rfl⟩
    · exact w1.elim
  · exact w1.elim
theorem e_isE (ew : ExcW X.K X.mg kn) (h1 : X.mg e.cls = some (.ref C)) (hz : Zc (.ref C) none oe) (hf : ∃ vs, oe.data = .fields vs) (hy : X.mg y = some (.ref D)) (hgy : Gl X y)
    (he : JE (G.at_ a e) W0 (X.suite a ((a, oe) :: pn)) en me) (hg : Gl X "isinstance") (hm : X.mg "isinstance" = none) {q : Pos} (hdb : (y == ("__debug__" : Str)) = false := by decide)
    (hs : starEach [en, .Name y q] X.env = (false, eval en X.env) :: starEach [.Name y q] X.env := by rfl) (hs2 : starEach [.Name y q] X.env = (false, eval (.Name y q) X.env) :: starEach [] X.env := by rfl) (hpl : (backTo pos (starEach [.Name y q] X.env)).any (·.1) = false := by rfl) :
    JE (G.at_ a e) W0 (X.suite a ((a, oe) :: pn)) (.Call (.Name "isinstance" p) [en, .Name y q] [] pos) (mIsE kn y me) :=
  isE_core (fv := .ref D) (cv := .ref D) ew h1 hz hf (fun u r => r) (fun b k => (ew.own _ _ _ _ _ k h1 hy).2) he (pe_glob hgy hy rfl hdb) hg hm hs hs2 hpl
theorem e_isVE (ew : ExcW X.K X.mg kn) (h1 : X.mg e.cls = some (.ref C)) (hz : Zc (.ref C) none oe) (hf : ∃ vs, oe.data = .fields vs) (hy : X.mg "ValueError" = none) (hgy : Gl X "ValueError")
    (he : JE (G.at_ a e) W0 (X.suite a ((a, oe) :: pn)) en me) (hg : Gl X "isinstance") (hm : X.mg "isinstance" = none) {q : Pos} (hfc : PE (X.suite a ((a, oe) :: pn)) (.Name "ValueError" q) (tC (.ty "ValueError")))
    (hs : starEach [en, .Name "ValueError" q] X.env = (false, eval en X.env) :: starEach [.Name "ValueError" q] X.env := by rfl) (hs2 : starEach [.Name "ValueError" q] X.env = (false, eval (.Name "ValueError" q) X.env) :: starEach [] X.env := by rfl) (hpl : (backTo pos (starEach [.Name "ValueError" q] X.env)).any (·.1) = false := by rfl) :
    JE (G.at_ a e) W0 (X.suite a ((a, oe) :: pn)) (.Call (.Name "isinstance" p) [en, .Name "ValueError" q] [] pos) (mIsE kn "ValueError" me) :=
  isE_core (fv := .ty "ValueError") (cv := .type "ValueError") ew h1 hz hf (fun u r => r) (fun b k => ew.ve _ _ _ k h1) he hfc hg hm hs hs2 hpl
end
end Vi
end Vi11_

section Vi12_
set_option Elab.async false
set_option linter.all false
set_option maxRecDepth 100000
set_option maxHeartbeats 2000000
namespace LamY
open PySem PySem.Spec PyProof.Rows L2 LamX
section
variable {X : Cx} {pins : List (Addr × Obj)} {σ : L2.St} {H HZ : Hp} {s s1 : Shared}
/-- x(), in the def that got the lambda: what is raised is wished for at the caller's slots -/
theorem pe_act2 {CXg : CXT} {Eg : XK} {Ng : List Str} {qg : Str} {sg : Scope} {g f c' : Addr} {cdg pm ctv : Value} {params : Arguments} {body : Expr} {scope : Scope} {k i : Nat} {a : Str} {pn : List (Addr × Obj)} {xe : Value → Shared → Prop} {W : WX} {tb : XK → TE} {p1 p2 : Pos}
    (I : Inv X pins σ H s) (L : LamS X.env.scope scope) (hf : s.heap.get? f = some (PySem.W.kla_obj "<lambda>" (X.env.qual ++ "<lambda>") params body scope (cloFrom X.env.cells scope.names []) pm c' ctv)) (hfn : H f = none) (hfr : f ∉ frs X.stack)
    (hbind : bindArgs (PySem.W.kla_fn "<lambda>" (X.env.qual ++ "<lambda>") params body scope (cloFrom X.env.cells scope.names []) pm (.ref c') ctv) ⟨[], []⟩ = pure [])
    (tk : Takes ((cxOf CXg X.prog X.w X.K X.mg X.base Ng qg sg g cdg X.A X.stack s H Eg).tr pn xe) W) (hr : Room (k + 1) (X.A.deeper (envOfC qg sg s.heap.objs.size g cdg)))
    (hbody : ∀ (A : Around) (outer : List Env) (s : Shared) (H : Hp) (E : XK), Room k (A.deeper (lamEnv X scope s.heap.objs.size f c')) → PE (lamCx X A outer s H E scope f c') body (tb E))
    (hN : Ng[i]? = some a) (hv : Vis sg a) (hd : (a == ("__debug__" : Str)) = false := by decide) (hcd : (a == ("__classdict__" : Str)) = false := by decide) :
    PE ((cxOf CXg X.prog X.w X.K X.mg X.base Ng qg sg g cdg X.A X.stack s H Eg).tr pn xe) (.Call (.Name a p1) [] [] p2)
      (fun σZ HZ Q => σZ[i]? = some (some (.ref f)) ∧ HZ c' = some (CodeO c' (X.env.qual ++ "<lambda>")) ∧ tb (WE W σZ) σ HZ Q) := by
  refine ⟨fun pinsZ sZ σZ HZ Q IZ h => ?_⟩
  obtain ⟨hs, hc, ht⟩ := h
  refine wpAny_Call_Name_kw (thn ((pe_var (pos := p1) (i := i) hN hv hd hcd).run pinsZ sZ σZ HZ (fun v H1 => v = .ref f ∧ H1 = HZ) IZ ⟨.ref f, hs, rfl, rfl⟩) fun u s1 ⟨v, H1, I1, r1, q1⟩ => ?_)
  obtain ⟨ev, eH⟩ := q1
  subst ev
  rw [eH] at I1
  obtain rfl : u = Value.ref f := r1
  have of1 : s1.heap.get? f = some (PySem.W.kla_obj "<lambda>" (X.env.qual ++ "<lambda>") params body scope (cloFrom X.env.cells scope.names []) pm c' ctv) := I1.base.keep f _ hf hfn hfr (fun z => nomatch (show f ∈ ([] : List Addr) from z))
  refine PySem.W.callWith_F0 ⟨_, _, _, _, of1⟩ ?_
  have un : Un (frs X.stack) [] H HZ s.heap s1.heap := I1.base
  obtain ⟨⟨oc, vs, t, hoc, hdc, hvc⟩, _, _⟩ := I1.hok c' _ hc
  have rc : codeAny (model X.prog X.w) (X.A.deeper (envOfC qg sg s.heap.objs.size g cdg)) (.call (.ref f) ⟨[], []⟩) (CR (L2.CX X.prog X.w) (envOfC qg sg s.heap.objs.size g cdg :: X.stack) X.prog X.w HZ s1 Q (WE W σZ)) s1 := by
    refine PySem.W.kla_callFunE hr.depth of1 rfl L.co L.gen rfl ⟨c', oc, vs, t, rfl, hoc, hdc, hvc⟩ ?_
    rw [hbind]
    refine wpAny_pure (wpAny_newFunctionEnv (fun y hy => (L.own y hy).2) (fun y hy => absurd hy (by simp)) (fun h₁ hns hsb => ⟨I1.nolimit.fresh _ hsb, ?_⟩) L.kind)
    show codeAny _ _ (.expr body (lamEnv X scope s1.heap.objs.size f c')) _ _
    have kp : ∀ b o, s1.heap.get? b = some o → h₁.get? b = some o := fun b o e => hsb.extBut b o (Nat.ne_of_lt (Heap.lt_size e)) (Heap.get?_push_of_some _ e)
    have J : Inv (lamCx X (X.A.deeper (envOfC qg sg s.heap.objs.size g cdg)) (envOfC qg sg s.heap.objs.size g cdg :: X.stack) s1 HZ (WE W σZ) scope f c') [] σ HZ { s1 with heap := h₁, toks := s1.toks + ([] : List (Str × Value)).length } :=
      lam_start2 I L I1.env0 hr.hd un hns kp
    refine PySem.W.kla_codeExpr (wpAny_mono ((hbody _ _ s1 HZ (WE W σZ) (hr.deeper _)).run [] _ _ HZ Q J ht) (fun v s' hq => ?_) fun e s' hq => hq)
    obtain ⟨w', H', J', rv, q⟩ := hq
    exact ⟨w', H', J'.os, J'.bare, J'.base, J'.hok, rv, q⟩
  refine wpAny_call (codeAny_mono rc fun r s' hq => ?_)
  cases r with
  | error e => exact passAt tk σZ pinsZ HZ s1 e s' I1 hq
  | ok fl =>
    cases fl with
    | ret u => exact I1.after hq
    | next => exact False.elim hq
    | brk => exact False.elim hq
    | cont => exact False.elim hq
end
def GivesTo2 (X : Cx) (Ng : List Str) (x : Str) (sg : Scope) (g : Addr) (cdg : Value) (bg : List Stmt) (a : Str) (q : Str) (TT : Addr → Addr → (XK → Hp → VK → Prop) → Hp → VK → Prop) : Prop :=
  ∀ (f c' : Addr) (s : Shared) (H : Hp) (Q : VK) (tl : XK → Hp → VK → Prop),
    (∀ (W : WX) (pn : List (Addr × Obj)) (xe : Value → Shared → Prop) (p1 p2 : Pos), Takes ((cxOf C8.CX0 X.prog X.w X.K X.mg X.base Ng x sg g cdg X.A X.stack s H C8.E0).tr pn xe) W →
      PE ((cxOf C8.CX0 X.prog X.w X.K X.mg X.base Ng x sg g cdg X.A X.stack s H C8.E0).tr pn xe) (.Call (.Name a p1) [] [] p2) (fun σZ HZ Q => σZ[0]? = some (some (.ref f)) ∧ HZ c' = some (CodeO c' q) ∧ tl (WE W σZ) HZ Q)) →
    H c' = some (CodeO c' q) → TT f c' tl H Q →
    ∃ t, PSs (cxOf C8.CX0 X.prog X.w X.K X.mg X.base Ng x sg g cdg X.A X.stack s H C8.E0).nox bg t ∧ t { nx := fun _ H' => Q .non H', rt := Q } (L2.start Ng [.ref f]) H
def tLam2 (T : List (Addr × Str)) (q : Str) (TT : Addr → Addr → (XK → Hp → VK → Prop) → Hp → VK → Prop) (t : XK → TE) : TE := fun σ H Q => Tabs T H ∧ ∀ H1, ExtN H H1 → Tabs T H1 → ∀ f c', H1 c' = some (CodeO c' q) → TT f c' (fun E H' Q' => t E σ H' Q') H1 Q
section
variable {X : Cx}
theorem pe_lamcall2 {T : List (Addr × Str)} {TT : Addr → Addr → (XK → Hp → VK → Prop) → Hp → VK → Prop} {x a : Str} {g c P : Addr} {k : Nat} {pg : Arguments} {bg : List Stmt} {sg : Scope} {dV kV doc pm cdv ct oc : Value} {an od : Option Addr} {osl : Array (Option Value)} {Ng : List Str}
    {params : Arguments} {body : Expr} {scope : Scope} {t : XK → TE} {p lpos pos : Pos} (hg : Gl X x) (hm : X.mg x = some (.ref g)) (hk : PySem.W.keepIn X.K (.ref g) = true)
    (lk : X.K.lookup g = some ⟨oc, od, .func (PySem.W.fnOf x x pg bg sg dV kV doc pm an cdv ct), osl⟩) (hcg : PySem.W.codeIn X.K cdv x = true) (hb : L2.Binds X.K (PySem.W.fnOf x x pg bg sg dV kV doc pm an cdv ct) [a] []) (Sg : FnScope Ng [a] sg) (hNg : Ng[0]? = some a) (hva : Vis sg a)
    (hG : Room k X.A → GivesTo2 X Ng x sg g cdv bg a (X.env.qual ++ "<lambda>") TT)
    (TB : TabB X.base X.mg c P) (hcode : X.env.code = .ref c) (hmT : (P, X.env.qual ++ "<lambda>") ∈ T) (hu : ∀ p ∈ T, p.1 = P → p.2 = X.env.qual ++ "<lambda>") (hr : Room (k + 2) X.A) (L : LamS X.env.scope scope) (hdef : defaultsOf params X.env = ([], []))
    (hbind : ∀ (q : Str) (cl : List (Str × Addr)) (pm cv ctv : Value), bindArgs (PySem.W.kla_fn "<lambda>" q params body scope cl pm cv ctv) ⟨[], []⟩ = pure [])
    (hbody : ∀ (A : Around) (outer : List Env) (s : Shared) (H : Hp) (E : XK) (f c' : Addr), Room k (A.deeper (lamEnv X scope s.heap.objs.size f c')) → PE (lamCx X A outer s H E scope f c') body (t E))
    (hdb : (x == ("__debug__" : Str)) = false := by decide) (hd : (a == ("__debug__" : Str)) = false := by decide) (hcd : (a == ("__classdict__" : Str)) = false := by decide) :
    PE X (.Call (.Name x p) [.Lambda params body scope lpos] [] pos) (tLam2 T (X.env.qual ++ "<lambda>") TT t) := by
  refine ⟨fun pins s σ H Q I h => ?_⟩
  obtain ⟨hT, h⟩ := h
  refine wpAny_Call_Name_kw (ld_glob I hg hm ?_ hdb)
  refine PySem.W.callWith_K (h₀ := X.base) I.ok.mod.kin hk ?_ (by rfl) (by rfl)
  show wpAny _ _ (spliced ((false, eval (.Lambda params body scope lpos) X.env) :: backTo pos (starEach [] X.env))) _ _ s
  refine Calls.spliced_cons (lam_make2 I TB hcode hmT hu hT hdef (L.has I.ok) fun f c' pm' ctv H1 s' I1 eN T1 hf hfn hfr hco => ?_)
  refine Calls.spliced_nil ⟨I1.kIn, ?_⟩
  have rc : codeAny (model X.prog X.w) X.A (.call (.ref g) ⟨[.ref f], []⟩) (CR C8.CX0 X.stack X.prog X.w H1 s' Q C8.E0) s' := by
    refine run_ofS (N := Ng) (ps := [a]) (us := [.ref f]) (vs := [.ref f]) lk hcg Sg hr I1.env0 (hb s' [.ref f] I1.kIn rfl) (.cons rfl .nil) rfl fun hr' => ?_
    obtain ⟨t', ht', hq'⟩ := hG (hr.mono (by omega)) f c' s' H1 Q (fun E H' Q' => t E σ H' Q') (fun W pn xe p1 p2 tk => pe_act2 (i := 0) I1 L hf hfn hfr (hbind _ _ _ _ _) tk hr' (fun A outer s H E hr2 => hbody A outer s H E f c' hr2) hNg hva hd hcd) hco (h H1 eN T1 f c' hco)
    exact ⟨t', ht'.nox, hq'⟩
  refine wpAny_call (codeAny_mono rc fun r s2 hq => ?_)
  cases r with
  | error e => exact (show False from hq).elim
  | ok fl =>
    cases fl with
    | ret u => exact I1.after hq
    | next => exact False.elim hq
    | brk => exact False.elim hq
    | cont => exact False.elim hq
end
end LamY
namespace Vi
open PySem PySem.Spec PyProof.Rows L2 LamX
def Val.plainV : Val → Bool
  | .exc _ => false
  | .thk => false
  | _ => true
def Out.plain (o : Out Val) : Out Val := match o with
  | .ok v h => if v.plainV = true then .ok v h else .bad
  | .er e h => .er e h
  | .bad => .bad
/-- the parameter that holds the lambda, called -/
def mThk (th : Hep → Out Val) : ME := fun env h => match (env[0]? : Option (Option Val)) with
  | some (some Val.thk) => (th h).plain
  | _ => .bad
/-- x(lambda: body): F the def's mirror -/
def mLam (F : (Hep → Out Val) → FL) (mb : ME) : ME := fun env h => match F (fun h' => mb env h') [.thk] h with
  | .ok v h1 => if v.plainV = true then .ok v h1 else .bad
  | _ => .bad
/-- inside the def that got the lambda f -/
def Gh.lam (G : Gh) (K : PySem.W.Frag) (f c' : Addr) (q : Str) (env : Env) (σ : L2.St) : Gh where
  T := G.T
  inv := fun ρ H => G.inv ρ H ∧ (H c' = some (CodeO c' q) ∧ some c' ∉ ρ) ∧ EnvR K G H ρ env σ
  mono := fun s h => ⟨G.mono s h.1, s.keep c' _ h.2.1.1 h.2.1.2 codeO_ne, h.2.2.step s⟩
  cur := none
  th := some f
theorem RepV.any {K : PySem.W.Frag} {G G' : Gh} {H : Hp} {ρ : Rho} {d : Val} {v : V} (p : d.plainV = true) (r : RepV K G H ρ d v) : RepV K G' H ρ d v := by
  cases d with
  | dat d => exact r
  | ref n => exact r
  | scr n => exact r
  | thk => cases p
  | exc e => cases p
theorem SimH.lam {K : PySem.W.Frag} {G : Gh} {H : Hp} {ρ : Rho} {h : Hep} {f c' : Addr} {q : Str} {env : Env} {σ : L2.St} (s : SimH K G H ρ h) (i : (G.lam K f c' q env σ).inv ρ H) : SimH K (G.lam K f c' q env σ) H ρ h := ⟨s.len, s.one, s.cells, s.dead, s.tabs, i⟩
theorem SimH.unlam {K : PySem.W.Frag} {G : Gh} {H : Hp} {ρ : Rho} {h : Hep} {f c' : Addr} {q : Str} {env : Env} {σ : L2.St} (s : SimH K (G.lam K f c' q env σ) H ρ h) : SimH K G H ρ h := ⟨s.len, s.one, s.cells, s.dead, s.tabs, s.inv.1⟩
/-- the def that gets the lambda, its body's mirror by what the lambda does -/
def GivesM (X : Cx) (T : List (Addr × Str)) (Ng : List Str) (x : Str) (sg : Scope) (g : Addr) (cdg : Value) (bg : List Stmt) (a : Str) (mbg : (Hep → Out Val) → MS) : Prop :=
  ∀ (G' : Gh) (s : Shared) (H : Hp) (th : Hep → Out Val), G'.T = T →
    (∀ (W : WX) (pn : List (Addr × Obj)) (xe : Value → Shared → Prop) (p1 p2 : Pos), Takes ((cxOf C8.CX0 X.prog X.w X.K X.mg X.base Ng x sg g cdg X.A X.stack s H C8.E0).tr pn xe) W →
      JE G' W ((cxOf C8.CX0 X.prog X.w X.K X.mg X.base Ng x sg g cdg X.A X.stack s H C8.E0).tr pn xe) (.Call (.Name a p1) [] [] p2) (mThk th)) →
    JSs G' W0 (cxOf C8.CX0 X.prog X.w X.K X.mg X.base Ng x sg g cdg X.A X.stack s H C8.E0).nox bg (mbg th)
section
variable {G : Gh} {W : WX} {X : Cx} {x a : Str} {g c P : Addr} {k : Nat} {pg : Arguments} {bg : List Stmt} {sg : Scope} {dV kV doc pm cdv ct oc : Value} {an od : Option Addr} {osl : Array (Option Value)} {Ng : List Str} {params : Arguments} {body : Expr} {scope : Scope} {p lpos pos : Pos} {mb : ME} {mbg : (Hep → Out Val) → MS}
theorem e_lam (hg : Gl X x) (hm : X.mg x = some (.ref g)) (hk : PySem.W.keepIn X.K (.ref g) = true)
    (lk : X.K.lookup g = some ⟨oc, od, .func (PySem.W.fnOf x x pg bg sg dV kV doc pm an cdv ct), osl⟩) (hcg : PySem.W.codeIn X.K cdv x = true) (hb : L2.Binds X.K (PySem.W.fnOf x x pg bg sg dV kV doc pm an cdv ct) [a] []) (Sg : FnScope Ng [a] sg) (hNg : Ng[0]? = some a) (hva : Vis sg a)
    (hG : Room k X.A → GivesM X G.T Ng x sg g cdv bg a mbg)
    (TB : TabB X.base X.mg c P) (hcode : X.env.code = .ref c) (hmT : (P, X.env.qual ++ "<lambda>") ∈ G.T) (hu : ∀ p ∈ G.T, p.1 = P → p.2 = X.env.qual ++ "<lambda>") (hr : Room (k + 2) X.A) (L : LamS X.env.scope scope) (hdef : defaultsOf params X.env = ([], []))
    (hbind : ∀ (q : Str) (cl : List (Str × Addr)) (pm cv ctv : Value), bindArgs (PySem.W.kla_fn "<lambda>" q params body scope cl pm cv ctv) ⟨[], []⟩ = pure [])
    (hbody : ∀ (A : Around) (outer : List PySem.Env) (s : Shared) (H : Hp) (E : XK) (f c' : Addr), Room k (A.deeper (lamEnv X scope s.heap.objs.size f c')) → JE G (fun cls d _ H => E cls d H) (lamCx X A outer s H E scope f c') body mb)
    (hdb : (x == ("__debug__" : Str)) = false := by decide) (hd : (a == ("__debug__" : Str)) = false := by decide) (hcd : (a == ("__classdict__" : Str)) = false := by decide) :
    JE G W X (.Call (.Name x p) [.Lambda params body scope lpos] [] pos) (mLam (fun th => mFun Ng.length (mbg th)) mb) := by
  let TT : Addr → Addr → (XK → Hp → VK → Prop) → Hp → VK → Prop := fun f c' tl H Q => ∃ (ρ : Rho) (env : Env) (h : Hep) (σ : L2.St), Sim (wd G X) σ H ρ env h ∧ tl = (fun E H' Q' => rE (wd G X) (fun cls d _ H => E cls d H) mb σ H' Q') ∧
    Wp (wd G X) W (RV (wd G X)) σ ρ H (mLam (fun th => mFun Ng.length (mbg th)) mb env h) Q
  refine PE.to (LamY.pe_lamcall2 (T := G.T) (TT := TT) (t := fun E => rE (wd G X) (fun cls d _ H => E cls d H) mb) hg hm hk lk hcg hb Sg hNg hva (fun hr0 => ?_) TB hcode hmT hu hr L hdef hbind hbody hdb hd hcd) fun σ H Q r => ?_
  · intro f c' s H Q tl act hco htt
    obtain ⟨ρ, env, h, σ, S, etl, w⟩ := htt
    subst etl
    have nc : some c' ∉ ρ := S.hp.notL hco fun vs z => by unfold CodeO at z; cases z
    have i0 : (G.lam X.K f c' (X.env.qual ++ "<lambda>") env σ).inv ρ H := ⟨S.hp.inv, ⟨hco, nc⟩, S.env⟩
    have S0 := S.hp.lam (f := f) i0
    refine ⟨_, hG hr0 (G.lam X.K f c' (X.env.qual ++ "<lambda>") env σ) s H (fun h' => mb env h') rfl fun W' pn xe p1 p2 tk => ?_, ?_⟩
    · refine PE.to (act W' pn xe p1 p2 tk) fun σZ HZ QZ rZ => ?_
      obtain ⟨ρZ, envZ, hZ, SZ, wZ⟩ := rZ
      unfold mThk at wZ
      split at wZ
      · rename_i e0
        obtain ⟨v0, s0, a0, t0, rfl⟩ := SZ.env.at_ 0 _ e0
        cases t0
        refine ⟨s0, SZ.hp.inv.2.1.1, ρZ, env, hZ, ⟨SZ.hp.unlam, SZ.hp.inv.2.2⟩, ?_⟩
        dsimp only at wZ
        revert wZ
        cases mb env hZ with
        | bad => exact fun w => w
        | er e5 h5 => exact fun w ρ' H' cls dx st S' ea => w ρ' H' cls dx st (S'.lam ((G.lam X.K f c' _ env σ).mono st SZ.hp.inv)) ea
        | ok v h5 =>
          intro w ρ' H' b st S' rb
          unfold Out.plain at w
          simp only at w
          split at w
          · rename_i pv
            exact w ρ' H' b st (S'.lam ((G.lam X.K f c' _ env σ).mono st SZ.hp.inv)) (rb.any pv)
          · exact w.elim
      · exact wZ.elim
    · refine body_reads (mg := X.mg) (E := C8.E0) (args := [.thk]) (vs := [.ref f]) S0 (.cons ⟨f, rfl, rfl⟩ .nil) ?_
      dsimp only [mLam] at w
      revert w
      cases mFun Ng.length (mbg fun h' => mb env h') [.thk] h with
      | bad => exact fun w => w
      | er e5 h5 => exact fun w => w.elim
      | ok v h5 =>
        intro w ρ' H' b st S' rb
        simp only at w
        split at w
        · rename_i pv
          exact w ρ' H' b st S'.unlam (rb.any pv)
        · exact w.elim
  · obtain ⟨ρ, env, h, S, w⟩ := r
    refine ⟨S.hp.tabs, fun H1 eN T1 f c' hco => ?_⟩
    obtain ⟨S1, st⟩ := S.hp.ext eN T1
    exact ⟨ρ, env, h, σ, S.step st S1, rfl, Wp.step st w⟩
end
end Vi
end Vi12_

section Vi13_
set_option Elab.async false
set_option linter.all false
set_option maxRecDepth 100000
namespace Vi
open PySem PySem.Spec PyProof.Rows L2

/-! ### methods of built-in things -/
def tyM (K : PySem.W.Frag) (T : String) (x : V) (H : Hp) : Prop := match x with
  | .str _ => T = "str"
  | .ref p => (T = "list" ∧ ∃ xs, SqL K H p xs) ∨ (T = "tuple" ∧ ((∃ o xs, H p = some (.frz o (.tup xs)) ∧ o.dict = none) ∨ ∃ o, K.lookup p = some o ∧ o.cls = .type "tuple" ∧ o.dict = none))
  | _ => False
theorem tyM_is {X : Cx} {pins : List (Addr × Obj)} {σ : L2.St} {H : Hp} {s : Shared} {T : String} {x : V} {v : Value} (I : Inv X pins σ H s) (r : RelV x v) (ty : tyM X.K T x H) :
    s.TypeIs v T ∧ ∀ a, v = .ref a → ∃ ob, s.heap.get? a = some ob ∧ ob.dict = none := by
  cases x with
  | str z => exact tyV_is I r ty
  | ref p =>
    rcases ty with ⟨e, xs, h⟩ | ⟨rfl, h⟩
    · exact tyV_is (x := .ref p) I r (.inl ⟨e, xs, h⟩)
    · have r' := r
      obtain rfl : v = Value.ref p := r
      rcases h with ⟨o, xs, h, d⟩ | ⟨o, h, c, d⟩
      · obtain ⟨e, _, its, _, ⟨o', e', c', _⟩⟩ := I.hok p _ h
        rw [e] at e'
        cases e'
        exact ⟨⟨o, e, c'⟩, fun a q => by cases q; exact ⟨o, e, d⟩⟩
      · have e := I.kIn p o h
        exact ⟨⟨o, e, c⟩, fun a q => by cases q; exact ⟨o, e, d⟩⟩
  | non => exact ty.elim
  | bl b => exact ty.elim
  | int i => exact ty.elim
  | byt b => exact ty.elim
  | flt b => exact ty.elim
  | ty n => exact ty.elim
abbrev F3 := Val → List Val → Hep → Out Val
def Quiet3 (f : F3) : Prop := ∀ a as h e h', f a as h ≠ .er e h'
/-- a method's reading by its mirror -/
def rM (D : Wd) (W : WX) (T : String) (f : F3) : V → List V → Hp → VK → Prop := fun x vs H Q => ∃ σ ρ h a as, tyC h a = some T ∧ SimH D.K D.G H ρ h ∧ RepV D.K D.G H ρ a x ∧ RVs D H ρ as vs ∧ Wp D W (RV D) σ ρ H (f a as h) Q
/-- things of the type T have the method -/
def MthD (G : Gh) (X : Cx) (name : Str) (T : String) (f : F3) : Prop := ∃ id : String, PlainAttrs T ∧ Slot T name id ∧ typeOf (.builtin id) = pure (.type "method_descriptor") ∧
  MtR X id (rM (wd G X) (fun _ _ _ _ => False) T f)
def mMeth (Ts : List String) (f : F3) (mo : ME) (ma : Env → Hep → Out (List Val)) : ME := fun env h => (mo env h).bind fun x h1 => match tyC h1 x with
  | some T => if T ∈ Ts then (ma env h1).bind fun as h2 => if tyC h2 x = some T then f x as h2 else .bad else .bad
  | none => .bad
def tMth (K : PySem.W.Frag) (Ts : List String) (r : String → V → List V → Hp → VK → Prop) (to : TE) (t : TA) : TE := fun σ H Q => to σ H fun x H1 => ∃ T, T ∈ Ts ∧ tyM K T x H1 ∧ t σ H1 fun xs H2 => r T x xs H2 Q
section
variable {G : Gh} {W : WX} {X : Cx} {o e : Expr} {es : List Expr} {name : Str} {apos cpos : Pos} {f : F3} {Ts : List String} {mo : ME} {ma : Env → Hep → Out (List Val)}
theorem tyM_at {K : PySem.W.Frag} {H : Hp} {ρ : Rho} {h : Hep} (S : SimH K G H ρ h) {v : Val} {x : V} {T : String} (r : RepV K G H ρ v x) (e : tyC h v = some T) (ok : T = "list" ∨ T = "tuple" ∨ T = "str") : tyM K T x H := by
  cases v with
  | dat d =>
    have e : some (tyN d) = some T := e
    cases e
    cases d with
    | none => simp [tyN] at ok
    | bool b => simp [tyN] at ok
    | int b => simp [tyN] at ok
    | str b => rw [show x = .str b from r]; exact rfl
    | list xs => obtain ⟨a, vs, rfl, e2, _⟩ := r; exact .inl ⟨rfl, vs, e2.sq⟩
    | tuple xs =>
      obtain ⟨a, vs, rfl, e2, _⟩ := r
      rcases e2 with ⟨⟨o, e2, d⟩, _⟩ | ⟨o, its, n, e2, e3, e4, _⟩
      · exact .inr ⟨rfl, .inl ⟨o, vs, e2, d⟩⟩
      · exact .inr ⟨rfl, .inr ⟨o, e2, e3, e4⟩⟩
    | dict kvs => simp [tyN] at ok
  | ref n =>
    have e : (match h[n]? with
      | some (.lst _) => some "list"
      | some (.refs _) => some "list"
      | _ => none) = some T := e
    split at e
    · rename_i ys q
      cases e
      obtain ⟨a, vs, rfl, _, e2, _⟩ := S.cell_at r q
      exact .inl ⟨rfl, vs, .of e2⟩
    · rename_i ns q
      cases e
      obtain ⟨l, e1, vs, e2, _⟩ := S.alive q (by simp)
      rw [r.2 l e1]
      exact .inl ⟨rfl, vs, .of e2⟩
    · cases e
  | scr ns =>
    cases e
    obtain ⟨a, vs, e1, e2, _⟩ := list_at S r (xs := ns.map .int) rfl
    subst e1
    exact .inl ⟨rfl, vs, e2⟩
  | thk => cases e
  | exc e' => cases e
theorem pe_mth (ms : ∀ T ∈ Ts, MthD G X name T f) {to : TE} {t : TA} (ho : PE X o to) (ha : PA X (e :: es) t)
    (hbase : attributeBase o name X.env (eval o X.env) = eval o X.env := by rfl)
    (hfew : ((backTo cpos (starEach (e :: es) X.env)).all (fun x => !x.1) && (backToKw cpos (keywordEach [] X.env)).all (fun x => x.1.isSome)
      && decide ((e :: es).length + ([] : List Keyword).length + (if ([] : List Keyword).isEmpty then 0 else 1) < 30)) = true := by rfl)
    (hline : (apos.endLine == cpos.line) = true := by rfl) (hs : starEach (e :: es) X.env = (false, eval e X.env) :: starEach es X.env := by rfl) (hplain : (backTo cpos (starEach es X.env)).any (·.1) = false := by rfl) :
    PE X (.Call (.Attribute o name apos) (e :: es) [] cpos) (tMth X.K Ts (fun T => rM (wd G X) (fun _ _ _ _ => False) T f) to t) := by
  refine ⟨fun pins s σ H Q I h => ?_⟩
  refine wpAny_Call_method_late hbase hfew hline rfl (thn (ho.run pins s σ H _ I h) fun v s1 ⟨x, H1, I1, r1, T, hT, ty, q1⟩ => ?_)
  obtain ⟨h1, h2⟩ := tyM_is I1 r1 ty
  obtain ⟨id, pa, slot, hty, hm⟩ := ms T hT
  refine ⟨T, id, pa, slot, hty, h1, h2, ?_⟩
  have hA := ha.run cpos pins s1 σ H1 _ I1 q1
  rw [hs] at hA ⊢
  refine Calls.callWith_builtin (by show (false || (backTo cpos (starEach es X.env)).any (·.1)) = false; rw [hplain] <;> rfl) (Calls.evalArgs_plain ?_)
  exact thn hA fun us s2 ⟨vs, H2, I2, r2, q2⟩ => hm pins s2 σ H2 x vs v us Q I2 r1 r2 q2
theorem pe_mth0 (ms : ∀ T ∈ Ts, MthD G X name T f) {to : TE} (ho : PE X o to)
    (hbase : attributeBase o name X.env (eval o X.env) = eval o X.env := by rfl) (hline : (apos.endLine == cpos.line) = true := by rfl) :
    PE X (.Call (.Attribute o name apos) [] [] cpos) (tMth X.K Ts (fun T => rM (wd G X) (fun _ _ _ _ => False) T f) to (fun _ H Q => Q [] H)) := by
  refine ⟨fun pins s σ H Q I h => ?_⟩
  refine wpAny_Call_method0_late hbase hline (thn (ho.run pins s σ H _ I h) fun v s1 ⟨x, H1, I1, r1, T, hT, ty, q1⟩ => ?_)
  obtain ⟨h1, h2⟩ := tyM_is I1 r1 ty
  obtain ⟨id, pa, slot, hty, hm⟩ := ms T hT
  exact ⟨T, id, pa, slot, hty, h1, h2, Calls.callWith_builtin rfl (PySem.evalArgs_none (hm pins s1 σ H1 x [] v [] Q I1 r1 .nil q1))⟩
theorem mth_of (q : Quiet3 f) (hT : ∀ T ∈ Ts, T = "list" ∨ T = "tuple" ∨ T = "str") {σ : L2.St} {H : Hp} {Q : VK} (r : rE (wd G X) W (mMeth Ts f mo ma) σ H Q) :
    tMth X.K Ts (fun T => rM (wd G X) (fun _ _ _ _ => False) T f) (rE (wd G X) W mo) (rA (wd G X) W ma) σ H Q := by
  refine rX.seq (R := RV (wd G X)) (f := fun x env h1 => match tyC h1 x with
    | some T => if T ∈ Ts then (ma env h1).bind fun as h2 => if tyC h2 x = some T then f x as h2 else .bad else .bad
    | none => .bad) r fun x v ρ1 H1 env h1 S1 r1 w1 => ?_
  split at w1
  · rename_i T eT
    split at w1
    · rename_i hin
      refine ⟨T, hin, tyM_at S1.hp r1 eT (hT T hin), ρ1, env, h1, S1, (Wp.bind (R := RVs (wd G X)) w1).imp fun vs H2 z => ?_⟩
      obtain ⟨ρ2, h2, as, s2, q2, r2, w2⟩ := z
      split at w2
      · rename_i e2
        refine ⟨σ, ρ2, h2, x, as, e2, q2, r1.step s2, r2, ?_⟩
        cases e : f x as h2 with
        | bad => rw [e] at w2; exact w2
        | ok a h => rw [e] at w2; exact w2
        | er e' h => exact (q _ _ _ _ _ e).elim
      · exact w2.elim
    · exact w1.elim
  · exact w1.elim
theorem e_mth (ms : ∀ T ∈ Ts, MthD G X name T f) (q : Quiet3 f) (hT : ∀ T ∈ Ts, T = "list" ∨ T = "tuple" ∨ T = "str") (ho : JE G W X o mo) (ha : JA G W X (e :: es) ma)
    (hbase : attributeBase o name X.env (eval o X.env) = eval o X.env := by rfl)
    (hfew : ((backTo cpos (starEach (e :: es) X.env)).all (fun x => !x.1) && (backToKw cpos (keywordEach [] X.env)).all (fun x => x.1.isSome)
      && decide ((e :: es).length + ([] : List Keyword).length + (if ([] : List Keyword).isEmpty then 0 else 1) < 30)) = true := by rfl)
    (hline : (apos.endLine == cpos.line) = true := by rfl) (hs : starEach (e :: es) X.env = (false, eval e X.env) :: starEach es X.env := by rfl) (hplain : (backTo cpos (starEach es X.env)).any (·.1) = false := by rfl) :
    JE G W X (.Call (.Attribute o name apos) (e :: es) [] cpos) (mMeth Ts f mo ma) :=
  PE.to (pe_mth ms ho ha hbase hfew hline hs hplain) fun σ H Q r => mth_of q hT r
theorem e_mth0 (ms : ∀ T ∈ Ts, MthD G X name T f) (q : Quiet3 f) (hT : ∀ T ∈ Ts, T = "list" ∨ T = "tuple" ∨ T = "str") (ho : JE G W X o mo)
    (hbase : attributeBase o name X.env (eval o X.env) = eval o X.env := by rfl) (hline : (apos.endLine == cpos.line) = true := by rfl) :
    JE G W X (.Call (.Attribute o name apos) [] [] cpos) (mMeth Ts f mo mNil) :=
  PE.to (pe_mth0 ms ho hbase hline) fun σ H Q r => by
    refine rX.imp (mth_of (W := W) (ma := mNil) q hT r) fun x H1 ⟨T, h1, h2, ρ, env, h, S, w⟩ => ⟨T, h1, h2, ?_⟩
    exact w.ok S.hp .nil
end
/-! ### the methods -/
def fAppend : F3 := fun a as h => match a, as with
  | .ref n, [.dat d] => (match h[n]? with
    | some (.lst xs) => if xs.length < sizeLine then .ok (.dat .none) (h.set n (.lst (xs ++ [d]))) else .bad
    | _ => .bad)
  | .ref n, [.ref m] => (match h[n]? with
    | some (.refs xs) => if xs.length < sizeLine then .ok (.dat .none) (h.set n (.refs (xs ++ [m]))) else .bad
    | _ => .bad)
  | _, _ => .bad
def fExtend : F3 := fun a as h => match a, as with
  | .ref n, [v] => (match h[n]?, toTrk h v with
    | some (.lst xs), some ys => if xs.length + ys.length ≤ sizeLine then .ok (.dat .none) (h.set n (.lst (xs ++ ys))) else .bad
    | _, _ => .bad)
  | _, _ => .bad
def fPop : F3 := fun a as h => match a, as with
  | .ref n, [] => (match h[n]? with
    | some (.lst xs) => (match xs[xs.length - 1]? with
      | some d => .ok (.dat d) (h.set n (.lst xs.dropLast))
      | none => .bad)
    | _ => .bad)
  | .ref n, [.dat (.int i)] => (match h[n]? with
    | some (.lst xs) => (match ixN xs.length i with
      | some k => (match xs[k]? with
        | some d => .ok (.dat d) (h.set n (.lst (xs.eraseIdx k)))
        | none => .bad)
      | none => .bad)
    | _ => .bad)
  | _, _ => .bad
def seqD : PyData → Option (List PyData)
  | .list xs => some xs
  | .tuple xs => some xs
  | _ => none
def fCount : F3 := fun a as h => match as with
  | [b] => (match toDat h a, toDat h b with
    | some (.str x), some (.str y) => ok (.int (Txt.count x y)) h
    | some d, some e => (match seqD d with
      | some xs => if PyData.plainAll xs = true ∧ e.plain = true ∧ min (PyData.depthAll xs) e.depth ≤ 60 then ok (.int (xs.countP fun y => PyData.eqv y e)) h else .bad
      | none => .bad)
    | _, _ => .bad)
  | _ => .bad
def fIndex : F3 := fun a as h => match as with
  | [b] => (match toDat h a, toDat h b with
    | some d, some e => (match seqD d with
      | some xs => if PyData.plainAll xs = true ∧ e.plain = true ∧ min (PyData.depthAll xs) e.depth ≤ 60 then (match SeqAt.dataPlace xs e with
        | some j => ok (.int j) h
        | none => .bad) else .bad
      | none => .bad)
    | _, _ => .bad)
  | _ => .bad
theorem q_fAppend : Quiet3 fAppend := by
  intro a as h e h' z
  unfold fAppend at z
  repeat (first | (split at z) | cases z)
theorem q_fExtend : Quiet3 fExtend := by
  intro a as h e h' z
  unfold fExtend at z
  repeat (first | (split at z) | cases z)
theorem q_fPop : Quiet3 fPop := by
  intro a as h e h' z
  unfold fPop at z
  repeat (first | (split at z) | cases z)
theorem q_fCount : Quiet3 fCount := by
  intro a as h e h' z
  unfold fCount ok at z
  repeat (first | (split at z) | cases z)
theorem q_fIndex : Quiet3 fIndex := by
  intro a as h e h' z
  unfold fIndex ok at z
  repeat (first | (split at z) | cases z)
theorem rvs1 {D : Wd} {H : Hp} {ρ : Rho} {b : Val} {xs : List V} (r : RVs D H ρ [b] xs) : ∃ y, xs = [y] ∧ RepV D.K D.G H ρ b y := by
  cases r with
  | cons r t =>
    cases t
    exact ⟨_, rfl, r⟩
theorem rvs0 {D : Wd} {H : Hp} {ρ : Rho} {xs : List V} (r : RVs D H ρ [] xs) : xs = [] := by
  cases r
  rfl
/-- a cell is written, nothing is told -/
theorem Wp.setC {D : Wd} {W : WX} {σ : L2.St} {ρ : Rho} {H : Hp} {n : Nat} {c : Cell} {d : Val} {h : Hep} {Q : VK} {a : Addr} {vs : List V} {b : V} (w : Wp D W (RV D) σ ρ H (.ok d (h.set n c)) Q) (S : SimH D.K D.G H ρ h) (hn : ρ[n]? = some (some a)) (x : CellOk D.K (upd H a (.lst vs)) ρ a c) (r : RepV D.K D.G H ρ d b) : Q b (upd H a (.lst vs)) :=
  w ρ _ _ (S.stepSet hn) (S.set hn x) (r.step (S.stepSet hn))
section
variable {G : Gh} {X : Cx}
theorem refs_cell {K : PySem.W.Frag} {G : Gh} {H : Hp} {ρ : Rho} {h : Hep} (S : SimH K G H ρ h) {n : Nat} {x : V} (r : RefOk ρ n x) {ns : List Nat} (e : h[n]? = some (.refs ns)) : ∃ a vs, x = .ref a ∧ ρ[n]? = some (some a) ∧ H a = some (.lst vs) ∧ vs.length = ns.length ∧ ∀ (i n : Nat) (v : V), ns[i]? = some n → vs[i]? = some v → RefOk ρ n v := by
  obtain ⟨a, e1, vs, e2, e3, e4⟩ := S.alive e (by simp)
  exact ⟨a, vs, r.2 a e1, e1, e2, e3, e4⟩
theorem m_append : MthD G X "append" "list" fAppend := by
  refine ⟨"list.append", PySem.F.plainAttrs_list, PySem.F.slot_list_append, PySem.F.type_list_append, ?_⟩
  intro pins s σ H x xs v us Q I rx rxs q
  obtain ⟨σ', ρ, h, a, as, eT, S, ra, rb, w⟩ := q
  unfold fAppend at w
  split at w
  · split at w
    · rename_i n d ys e
      split at w
      · rename_i hz
        obtain ⟨l, vs, rfl, e2, e3, e4⟩ := S.cell_at ra e
        obtain ⟨y, rfl, ry⟩ := rvs1 rb
        refine mt_append pins s σ H _ _ v us Q I rx rxs ⟨l, vs, y, rfl, rfl, e3, by rw [e4.len]; exact hz, ?_⟩
        exact Wp.setC w S e2 ⟨_, upd_same, (e4.append (Reps.one ry)).step (S.stepSet e2)⟩ rfl
      · exact w.elim
    · exact w.elim
  · split at w
    · rename_i n m ys e
      split at w
      · rename_i hz
        obtain ⟨l, vs, rfl, e2, e3, hl, e4⟩ := refs_cell S ra e
        obtain ⟨y, rfl, ry⟩ := rvs1 rb
        refine mt_append pins s σ H _ _ v us Q I rx rxs ⟨l, vs, y, rfl, rfl, e3, by rw [hl]; exact hz, ?_⟩
        refine Wp.setC w S e2 ⟨_, upd_same, by simp [hl], fun i m' v' e1 e5 => ?_⟩ rfl
        by_cases hi : i < ys.length
        · rw [List.getElem?_append_left hi] at e1
          rw [List.getElem?_append_left (by rw [hl]; exact hi)] at e5
          exact e4 i m' v' e1 e5
        · rw [List.getElem?_append_right (by omega)] at e1
          rw [List.getElem?_append_right (by rw [hl]; omega), hl] at e5
          cases q : i - ys.length with
          | zero =>
            rw [q] at e1 e5
            simp at e1 e5
            subst e1
            subst e5
            exact ry
          | succ k => rw [q] at e1; simp at e1
      · exact w.elim
    · exact w.elim
  · exact w.elim
theorem m_extend : MthD G X "extend" "list" fExtend := by
  refine ⟨"list.extend", PySem.F.plainAttrs_list, PySem.F.slot_list_extend, PySem.F.type_list_extend, ?_⟩
  intro pins s σ H x xs v us Q I rx rxs q
  obtain ⟨σ', ρ, h, a, as, eT, S, ra, rb, w⟩ := q
  unfold fExtend at w
  split at w
  · split at w
    · rename_i n b ys zs e e'
      split at w
      · rename_i hz
        obtain ⟨l, vs, rfl, e2, e3, e4⟩ := S.cell_at ra e
        obtain ⟨y, rfl, ry⟩ := rvs1 rb
        obtain ⟨l2, vs2, rfl, e5, e6⟩ := trk_at S ry e'
        refine mt_extend pins s σ H _ _ v us Q I rx rxs ⟨l, l2, vs, vs2, rfl, rfl, e3, e5, by rw [e4.len, e6.len]; exact hz, ?_⟩
        exact Wp.setC w S e2 ⟨_, upd_same, (e4.append e6).step (S.stepSet e2)⟩ rfl
      · exact w.elim
    · exact w.elim
  · exact w.elim
theorem Reps.dropLast {K H ρ} {ds : List PyData} {vs : List V} (h : Reps K H ρ ds vs) : Reps K H ρ ds.dropLast vs.dropLast := by
  rw [List.dropLast_eq_take, List.dropLast_eq_take, h.len]
  exact h.take _
theorem Reps.erase {K H ρ} {ds : List PyData} {vs : List V} (h : Reps K H ρ ds vs) (k : Nat) : Reps K H ρ (ds.eraseIdx k) (vs.eraseIdx k) := by
  rw [List.eraseIdx_eq_take_drop_succ, List.eraseIdx_eq_take_drop_succ]
  exact (h.take k).append (h.drop (k + 1))
theorem m_pop : MthD G X "pop" "list" fPop := by
  refine ⟨"list.pop", PySem.F.plainAttrs_list, PySem.F.slot_list_pop, PySem.F.type_list_pop, ?_⟩
  intro pins s σ H x xs v us Q I rx rxs q
  obtain ⟨σ', ρ, h, a, as, eT, S, ra, rb, w⟩ := q
  unfold fPop at w
  split at w
  · split at w
    · rename_i n ys e
      split at w
      · rename_i d ed
        obtain ⟨l, vs, rfl, e2, e3, e4⟩ := S.cell_at ra e
        obtain ⟨y, hy, ry⟩ := e4.get _ ed
        rw [rvs0 rb] at rxs
        refine mt_pop pins s σ H _ _ v us Q I rx rxs ⟨l, vs, y, rfl, rfl, e3, by rw [e4.len]; exact hy, ?_⟩
        exact Wp.setC w S e2 ⟨_, upd_same, (e4.dropLast).step (S.stepSet e2)⟩ ry
      · exact w.elim
    · exact w.elim
  · rename_i n i
    split at w
    · rename_i ys e
      split at w
      · rename_i k ek
        split at w
        · rename_i d ed
          obtain ⟨l, vs, rfl, e2, e3, e4⟩ := S.cell_at ra e
          obtain ⟨y, hy, ry⟩ := e4.get _ ed
          obtain ⟨z, rfl, rz⟩ := rvs1 rb
          have rz : z = .int i := rz
          subst rz
          have hz := (I.lst e3)
          obtain ⟨its, n', _, _, hz⟩ := hz
          have hk := ek
          rw [← e4.len] at hk
          obtain ⟨h1, h2, h3, h4⟩ := ixN_seq hk
          have hn := sizeLine_eq
          refine mt_popAt pins s σ H _ _ v us Q I rx rxs ⟨l, vs, i, k, y, rfl, rfl, e3, ?_, ?_, h1, hy, ?_⟩
          · omega
          · omega
          · exact Wp.setC w S e2 ⟨_, upd_same, (e4.erase k).step (S.stepSet e2)⟩ ry
        · exact w.elim
      · exact w.elim
    · exact w.elim
  · exact w.elim
theorem seqD_at {K : PySem.W.Frag} {G : Gh} {H : Hp} {ρ : Rho} {h : Hep} (S : SimH K G H ρ h) {a : Val} {x : V} (r : RepV K G H ρ a x) {d : PyData} (e : toDat h a = some d) {xs : List PyData} (es : seqD d = some xs) {T : String} (eT : tyC h a = some T) :
    (T = "list" ∧ d = .list xs) ∨ (T = "tuple" ∧ d = .tuple xs) := by
  cases d with
  | list ys =>
    cases es
    refine .inl ⟨?_, rfl⟩
    cases a with
    | dat d' =>
      have : d' = .list xs := by simpa [toDat] using e
      subst this
      exact (Option.some.inj eT).symm
    | ref n =>
      have e : (match h[n]? with
        | some (.lst xs) => some (PyData.list xs)
        | _ => none) = some (.list xs) := e
      have eT : (match h[n]? with
        | some (.lst _) => some "list"
        | some (.refs _) => some "list"
        | _ => none) = some T := eT
      split at e
      · rename_i q
        rw [q] at eT
        exact (Option.some.inj eT).symm
      · cases e
    | scr ns => exact (Option.some.inj eT).symm
    | thk => cases e
    | exc e' => cases e
  | tuple ys =>
    cases es
    have := dat_of e (by intro zs z; cases z)
    subst this
    exact .inr ⟨(Option.some.inj eT).symm, rfl⟩
  | none => cases es
  | bool b => cases es
  | int b => cases es
  | str b => cases es
  | dict b => cases es
theorem m_countL (hu : X.A.units + 64 < cLine) : MthD G X "count" "list" fCount := by
  refine ⟨"list.count", PySem.F.plainAttrs_list, PySem.F.slot_list_count, PySem.F.type_list_count, ?_⟩
  intro pins s σ H x xs v us Q I rx rxs q
  obtain ⟨σ', ρ, h, a, as, eT, S, ra, rb, w⟩ := q
  unfold fCount at w
  split at w
  · obtain ⟨y, rfl, ry⟩ := rvs1 rb
    obtain ⟨u, rfl, ru⟩ := vals1 rxs
    split at w
    · rename_i z1 z2 e1 e2
      have := dat_of e1 (by intro zs z; cases z)
      subst this
      exact absurd (Option.some.inj eT) (by show ¬ ("str" = _); decide)
    · rename_i d e hno ed ee
      split at w
      · rename_i ys es
        split at w
        · rename_i c
          rcases seqD_at S ra ed es eT with ⟨_, rfl⟩ | ⟨z, _⟩
          · obtain ⟨l, vs, rfl, e2, e3⟩ := list_at S ra ed
            cases rx
            obtain ⟨its, rv, pl, hz⟩ := I.list e2
            obtain ⟨bs, r2⟩ := Dp.reads I e y u (dp_at S ry ee c.2.1) ru
            obtain ⟨as', r1⟩ := Dp.readsAll I ys vs its (Reps.dp ys vs c.1 e3) rv
            exact SeqAt.count_list_data pl.isList (by simpa using r1) r2 c.1 c.2.1 (by omega) ⟨.int _, H, I.tok _, ⟨_, rfl⟩, Wp.dat w S rfl⟩
          · exact absurd z (by decide)
        · exact w.elim
      · exact w.elim
    · exact w.elim
  · exact w.elim
theorem m_countT (hu : X.A.units + 64 < cLine) : MthD G X "count" "tuple" fCount := by
  refine ⟨"tuple.count", PySem.F.plainAttrs_tuple, PySem.F.slot_tuple_count, PySem.F.type_tuple_count, ?_⟩
  intro pins s σ H x xs v us Q I rx rxs q
  obtain ⟨σ', ρ, h, a, as, eT, S, ra, rb, w⟩ := q
  unfold fCount at w
  split at w
  · obtain ⟨y, rfl, ry⟩ := rvs1 rb
    obtain ⟨u, rfl, ru⟩ := vals1 rxs
    split at w
    · rename_i z1 z2 e1 e2
      have := dat_of e1 (by intro zs z; cases z)
      subst this
      exact absurd (Option.some.inj eT) (by show ¬ ("str" = _); decide)
    · rename_i d e hno ed ee
      split at w
      · rename_i ys es
        split at w
        · rename_i c
          rcases seqD_at S ra ed es eT with ⟨z, _⟩ | ⟨_, rfl⟩
          · exact absurd z (by decide)
          · obtain ⟨l, vs, rfl, e2, e3⟩ := tup_at ra ed
            cases rx
            obtain ⟨its, rv, pl, hz⟩ := I.tuple e2.sq
            obtain ⟨bs, r2⟩ := Dp.reads I e y u (dp_at S ry ee c.2.1) ru
            obtain ⟨as', r1⟩ := Dp.readsAll I ys vs its (Reps.dp ys vs c.1 e3) rv
            exact SeqAt.count_tuple_data pl (by simpa using r1) r2 c.1 c.2.1 (by omega) ⟨.int _, H, I.tok _, ⟨_, rfl⟩, Wp.dat w S rfl⟩
        · exact w.elim
      · exact w.elim
    · exact w.elim
  · exact w.elim
theorem m_countS : MthD G X "count" "str" fCount := by
  refine ⟨"str.count", PySem.F.plainAttrs_str, PySem.F.slot_str_count, PySem.F.type_str_count, ?_⟩
  intro pins s σ H x xs v us Q I rx rxs q
  obtain ⟨σ', ρ, h, a, as, eT, S, ra, rb, w⟩ := q
  unfold fCount at w
  split at w
  · obtain ⟨y, rfl, ry⟩ := rvs1 rb
    split at w
    · rename_i z1 z2 e1 e2
      have := dat_of e1 (by intro zs z; cases z)
      subst this
      have := dat_of e2 (by intro zs z; cases z)
      subst this
      have ra : x = .str z1 := ra
      have ry : y = .str z2 := ry
      exact mt_count pins s σ H x [y] v us Q I rx rxs ⟨z1, z2, ra, by rw [ry], Wp.dat w S rfl⟩
    · rename_i d e hno ed ee
      split at w
      · rename_i ys es
        split at w
        · rcases seqD_at S ra ed es eT with ⟨z, _⟩ | ⟨z, _⟩
          · exact absurd z (by decide)
          · exact absurd z (by decide)
        · exact w.elim
      · exact w.elim
    · exact w.elim
  · exact w.elim
theorem m_indexL (hu : X.A.units + 64 < cLine) : MthD G X "index" "list" fIndex := by
  refine ⟨"list.index", PySem.F.plainAttrs_list, PySem.F.slot_list_index, PySem.F.type_list_index, ?_⟩
  intro pins s σ H x xs v us Q I rx rxs q
  obtain ⟨σ', ρ, h, a, as, eT, S, ra, rb, w⟩ := q
  unfold fIndex at w
  split at w
  · obtain ⟨y, rfl, ry⟩ := rvs1 rb
    obtain ⟨u, rfl, ru⟩ := vals1 rxs
    split at w
    · rename_i d e ed ee
      split at w
      · rename_i ys es
        split at w
        · rename_i c
          split at w
          · rename_i j ej
            rcases seqD_at S ra ed es eT with ⟨_, rfl⟩ | ⟨z, _⟩
            · obtain ⟨l, vs, rfl, e2, e3⟩ := list_at S ra ed
              cases rx
              obtain ⟨its, rv, ⟨⟨cls, dd, data, sls⟩, n, ho, hc, hdn, hdt⟩, hz⟩ := I.list e2
              simp only at hc hdt
              subst hc hdt
              obtain ⟨bs, r2⟩ := Dp.reads I e y u (dp_at S ry ee c.2.1) ru
              obtain ⟨as', r1⟩ := Dp.readsAll I ys vs its (Reps.dp ys vs c.1 e3) rv
              have r1' : ReadsAll s.heap its.toArray.toList ys as' := by simpa using r1
              obtain ⟨hj, hit, hno⟩ := SeqAt.hit_at (d := e) r1' c.1 ej
              have hsl := sizeLine_eq
              have hlen := rv.length
              refine call_meets PySem.F.slot_list_index ⟨_, ho, rfl⟩ PySem.F.entry_list_index (PySem.F.args_list_index_2 _ _)
                (SeqAt.list_indexAt l its.toArray n dd sls u (fun w => PyData.eqv (SeqAt.readOf s.heap w) e) j hj (by simp at hj; omega) hit hno) ⟨ho, SeqAt.items_plain r1' r2 c.1 c.2.1 (by omega), ⟨.int _, H, I.tok _, ⟨_, rfl⟩, Wp.dat w S rfl⟩⟩
            · exact absurd z (by decide)
          · exact w.elim
        · exact w.elim
      · exact w.elim
    · exact w.elim
  · exact w.elim
theorem m_indexT (hu : X.A.units + 64 < cLine) : MthD G X "index" "tuple" fIndex := by
  refine ⟨"tuple.index", PySem.F.plainAttrs_tuple, PySem.F.slot_tuple_index, PySem.F.type_tuple_index, ?_⟩
  intro pins s σ H x xs v us Q I rx rxs q
  obtain ⟨σ', ρ, h, a, as, eT, S, ra, rb, w⟩ := q
  unfold fIndex at w
  split at w
  · obtain ⟨y, rfl, ry⟩ := rvs1 rb
    obtain ⟨u, rfl, ru⟩ := vals1 rxs
    split at w
    · rename_i d e ed ee
      split at w
      · rename_i ys es
        split at w
        · rename_i c
          split at w
          · rename_i j ej
            rcases seqD_at S ra ed es eT with ⟨z, _⟩ | ⟨_, rfl⟩
            · exact absurd z (by decide)
            · obtain ⟨l, vs, rfl, e2, e3⟩ := tup_at ra ed
              cases rx
              obtain ⟨its, rv, ⟨⟨cls, dd, data, sls⟩, ho, hc, n, hdt⟩, hz⟩ := I.tuple e2.sq
              simp only at hc hdt
              subst hc hdt
              obtain ⟨bs, r2⟩ := Dp.reads I e y u (dp_at S ry ee c.2.1) ru
              obtain ⟨as', r1⟩ := Dp.readsAll I ys vs its (Reps.dp ys vs c.1 e3) rv
              have r1' : ReadsAll s.heap its.toArray.toList ys as' := by simpa using r1
              obtain ⟨hj, hit, hno⟩ := SeqAt.hit_at (d := e) r1' c.1 ej
              exact call_meets PySem.F.slot_tuple_index ⟨_, ho, rfl⟩ PySem.F.entry_tuple_index (PySem.F.args_tuple_index_2 _ _)
                (TI.tuple_indexAt l its.toArray n dd sls u (fun w => PyData.eqv (SeqAt.readOf s.heap w) e) j hj hit hno) ⟨ho, SeqAt.items_plain r1' r2 c.1 c.2.1 (by omega), ⟨.int _, H, I.tok _, ⟨_, rfl⟩, Wp.dat w S rfl⟩⟩
          · exact w.elim
        · exact w.elim
      · exact w.elim
    · exact w.elim
  · exact w.elim
end
end Vi
end Vi13_

section Vi14_
set_option Elab.async false
set_option linter.all false
set_option maxRecDepth 100000
namespace Vi
open PySem PySem.Spec PyProof.Rows L2

/-! ### t[::-1] -/
section
variable {prog : Program} {w : World} {A : Around} {E : Value → Shared → Prop} {s : Shared}
theorem adjust_back (n : Nat) : Builtin.Slice.sliceAdjust none none (-1) (n : Int) = ((n : Int) - 1, -1) := by
  unfold Builtin.Slice.sliceAdjust
  have h1 : ((-1 : Int) < 0) := by decide
  simp [h1]
theorem places_back (n : Nat) : Builtin.Slice.slicePlaces ((n : Int) - 1) (-1) (-1) = n := by
  unfold Builtin.Slice.slicePlaces
  have h1 : ¬ ((-1 : Int) > 0) := by decide
  simp only [h1, if_false]
  split
  · have e : ((n : Int) - 1 - -1 - 1) / - -1 = (n : Int) - 1 := by
      rw [show (- -1 : Int) = 1 from rfl, Int.ediv_one]
      omega
    rw [e]
    omega
  · omega
theorem sliceApplied_back {sl : Addr} {t : Tok} {n : Nat} {Q : Int × Int × Nat → Shared → Prop} (hs : s.heap.IsSliceOf sl .none .none (.int (-1) t))
    (h : Q ((n : Int) - 1, -1, n) s) : wpAny (model prog w) A (Builtin.Slice.sliceApplied (.ref sl) (pure (n : Int))) Q E s := by
  obtain ⟨os, hos, hcs, hds⟩ := id hs
  unfold Builtin.Slice.sliceApplied Builtin.Slice.sliceFields
  refine wpAny_bind (wpAny_bind (wpAny_field hos hds (x := .none) rfl (wpAny_bind (wpAny_field hos hds (x := .none) rfl (wpAny_bind (wpAny_field hos hds (x := .int (-1) t) rfl (wpAny_pure ?_)))))))
  refine wpAny_bind (slicePart_int ?_)
  show wpAny _ _ (if ((-1 : Int) == 0) = true then _ else _) _ _ s
  rw [if_neg (by decide)]
  refine wpAny_bind (slicePart_none (wpAny_bind (slicePart_none (wpAny_bind (wpAny_pure ?_)))))
  show wpAny _ _ (match Builtin.Slice.sliceAdjust none none (-1) (n : Int) with | (lo, hi) => pure (lo, (-1 : Int), Builtin.Slice.slicePlaces lo hi (-1))) _ _ s
  rw [adjust_back n]
  show wpAny _ _ (pure ((n : Int) - 1, (-1 : Int), Builtin.Slice.slicePlaces ((n : Int) - 1) (-1) (-1))) _ _ s
  rw [places_back]
  exact wpAny_pure h
theorem pick_back (xs : Array Value) : ((List.range xs.size).filterMap fun (m : Nat) => xs[((xs.size : Int) - 1 + (m : Int) * (-1)).toNat]?).toArray = xs.toList.reverse.toArray := by
  have e : (fun (m : Nat) => xs[((xs.size : Int) - 1 + (m : Int) * (-1)).toNat]?) = (xs[·]?) ∘ fun m => xs.size - 1 - m := by
    funext m
    show xs[((xs.size : Int) - 1 + (m : Int) * (-1)).toNat]? = xs[xs.size - 1 - m]?
    congr 1
    omega
  rw [e, ← List.filterMap_map, PySem.W.krv_range, List.filterMap_reverse, PySem.W.krv_all]
theorem getItem_tuple_back {t sl : Addr} {items : Array Value} {tk : Tok} {Q : Value → Shared → Prop} (ht : IsTup s.heap t items) (hs : s.heap.IsSliceOf sl .none .none (.int (-1) tk))
    (h : Q (.ref s.heap.objs.size) { s with heap := s.heap.push { cls := .type "tuple", data := .seq items.toList.reverse.toArray } })
    (hsz : items.size ≤ sizeLine) : wpAny (model prog w) A (getItem (.ref t) (.ref sl)) Q E s := by
  have htake : sizeOk (.seq items.toList.reverse.toArray) := by
    show items.toList.reverse.toArray.size ≤ sizeLine
    simpa using hsz
  obtain ⟨os, hos, hcs, hds⟩ := id hs
  have hTs : s.TypeIs (.ref sl) "slice" := ⟨os, hos, hcs⟩
  unfold getItem
  try with_reducible refine wpAny_holding ?_
  first | refine wpAny_bind (wpAny_pure ?_) | skip
  refine wpAny_bind (wpAny_sequenceKey ht.typeIs (by decide) ?_)
  refine wpAny_bind (wpAny_callSpecial?_slot (name := Str.ofString "__getitem__") ht.typeIs PyProof.Rows.slot_tuple_getitem
    (wpAny_call_entry PyProof.Rows.slot_tuple_getitem ht.typeIs PyProof.Rows.entry_tuple_getitem ?_ (PyProof.Rows.args_tuple_getitem _ _)))
  show wpAny _ _ (Builtin.Tuple.tupleItemsOf (.ref t) >>= _) _ _ s
  refine wpAny_bind (tupleItemsOf_ ht ?_)
  refine wpAny_bind (wpAny_typeOf hTs ?_)
  rw [if_pos (by decide)]
  refine wpAny_bind (sliceApplied_back hs ?_)
  have hno : ¬ ((((items.size : Int) - 1) == 0 && (-1 : Int) == 1 && items.size == items.size) = true) := by
    intro q
    rw [Bool.and_eq_true, Bool.and_eq_true] at q
    exact absurd q.1.2 (by decide)
  show wpAny _ _ (if (((items.size : Int) - 1) == 0 && (-1 : Int) == 1 && items.size == items.size) = true then _ else _) _ _ s
  rw [if_neg hno, pick_back]
  first
    | exact wpAny_bind (m := Builtin.Tuple.tupleExact _) (wpAny_newObj_type (wpAny_pure ⟨_, rfl, wpAny_pure h⟩) htake)
    | exact wpAny_bind (m := Builtin.Tuple.tupleExact _) (wpAny_newObj_type (wpAny_bind (wpAny_pure (wpAny_pure ⟨_, rfl, wpAny_pure h⟩))) htake)
    | exact wpAny_bind (wpAny_bind (m := Builtin.Tuple.tupleExact _) (wpAny_newObj_type (wpAny_pure (wpAny_pure ⟨_, rfl, wpAny_pure h⟩)) htake))
    | exact wpAny_bind (wpAny_bind (m := Builtin.Tuple.tupleExact _) (wpAny_newObj_type (wpAny_pure ⟨_, rfl, wpAny_pure h⟩) htake))
end
/-- xs[::-1] of a list, a tuple -/
def kRev (v : Val) (h : Hep) : Out Val := match toDat h v with
  | some (.list xs) => ok (.list xs.reverse) h
  | some (.tuple xs) => ok (.tuple xs.reverse) h
  | _ => .bad
def mRev (m : ME) : ME := fun env h => (m env h).bind kRev
theorem Reps.reverse {K H ρ} : ∀ {ds : List PyData} {vs : List V}, Reps K H ρ ds vs → Reps K H ρ ds.reverse vs.reverse
  | [], _, h => by rw [show _ = [] from h]; exact Reps.nil
  | d :: ds, _, h => by
    obtain ⟨v, r, rfl, h1, h2⟩ := h
    rw [List.reverse_cons, List.reverse_cons]
    exact (Reps.reverse h2).append (Reps.one h1)
section
variable {G : Gh} {W : WX} {X : Cx} {e : Expr} {m : ME} {k : Nat} {p1 p2 p3 pos : Pos}
theorem pe_rev {te : TE} (he : PE X e te) : PE X (.Subscript e (.Slice none none (some (.UnaryOp .USub (.Constant (.int 1) k p1) p2)) p3) pos)
    (fun σ H Q => te σ H fun x H1 => (∃ a xs, x = .ref a ∧ SqL X.K H1 a xs ∧ ∀ p, H1 p = none → Q (.ref p) (upd H1 p (.lst xs.reverse))) ∨ ∃ a xs, x = .ref a ∧ SqT X.K H1 a xs ∧ NewT H1 xs.reverse Q) := by
  refine ⟨fun pins s σ H Q I h => ?_⟩
  refine Subscript_ (thn (he.run pins s σ H _ I h) fun v s1 ⟨x, H1, I1, r1, q1⟩ => ?_)
  have hst : PO X (some (.UnaryOp .USub (.Constant (.int 1) k p1) p2)) (tPart (tUn (rU fun i => .int (-i)) (tC (.int 1)))) := po_some (pe_un un_neg pe_int)
  refine wpAny_Slice (thn (po_none.run pins s1 σ H1 (fun o H2 => o = none ∧ H2 = H1) I1 ⟨rfl, rfl⟩) fun vl s2 ⟨l, H2, I2, pl, el, e2⟩ => ?_)
  subst el e2
  refine thn (po_none.run pins s2 σ H2 (fun o H3 => o = none ∧ H3 = H2) I2 ⟨rfl, rfl⟩) fun vu s3 ⟨u, H3, I3, pu, eu, e3⟩ => ?_
  subst eu e3
  refine thn (hst.run pins s3 σ H3 (fun o H4 => o = some (-1) ∧ H4 = H3) I3 ⟨1, rfl, -1, rfl, rfl, rfl⟩) fun vs s4 ⟨o, H4, I4, ps, eo, e4⟩ => ?_
  subst eo e4
  have I5 : Inv X pins σ H4 { s4 with heap := s4.heap.push { cls := .type "slice", data := .fields #[vl, vu, vs] } } := I4.kept (t' := s4.toks) fun b ob q => Heap.get?_push_of_some _ q
  rcases q1 with ⟨a, xs, rfl, hx, q⟩ | ⟨a, xs, rfl, hx, q⟩
  · cases r1
    obtain ⟨its, r, ht, hz⟩ := I5.list hx
    have hlen := r.length
    show wpAny (model X.prog X.w) X.A (subscriptTail e (.Slice none none (some (.UnaryOp .USub (.Constant (.int 1) k p1) p2)) p3) (.ref a) (.ref s4.heap.objs.size)) (EP X pins σ Q) X.xe { s4 with heap := s4.heap.push { cls := .type "slice", data := .fields #[vl, vu, vs] } }
    refine tail_any (ops := [.ref a, .ref s4.heap.objs.size]) ht.isList.typeIs (PySem.slot_list_getitem.lookup) ?_ (by with_unfolding_all rfl)
    refine wpAny_getItem_list_slice ht.isList (Heap.IsSliceOf.new _ vl vu vs) pl pu ps (by decide) ?_ (by rw [List.size_toArray]; omega)
    rw [PySem.W.krv_pick]
    refine ⟨.ref _, _, I5.laid (t' := s4.toks) (o := .lst xs.reverse) (fun b ob q => Heap.get?_push_of_some _ q) (Nat.le_refl _) ?_, rfl, q _ (I5.hok.fresh (Nat.le_refl _))⟩
    exact ⟨by rw [List.length_reverse]; exact hz, _, 0, r.reverse, Heap.get?_push_size _ rfl⟩
  · cases r1
    obtain ⟨its, r, ht, hz⟩ := I5.tuple hx
    have hlen := r.length
    cases pl
    cases pu
    cases ps
    show wpAny (model X.prog X.w) X.A (subscriptTail e (.Slice none none (some (.UnaryOp .USub (.Constant (.int 1) k p1) p2)) p3) (.ref a) (.ref s4.heap.objs.size)) (EP X pins σ Q) X.xe _
    refine tail_any (ops := [.ref a, .ref s4.heap.objs.size]) ht.typeIs (PyProof.Rows.slot_tuple_getitem.lookup) ?_ (by with_unfolding_all rfl)
    refine getItem_tuple_back ht (Heap.IsSliceOf.new _ _ _ _) ?_ (by rw [List.size_toArray]; omega)
    exact ⟨.ref _, _, Inv.laidT (t' := s4.toks) I5 (fun b ob q => Heap.get?_push_of_some _ q) (Nat.le_refl _) (Heap.get?_push_size _ rfl) r.reverse (by rw [List.length_reverse]; exact hz), rfl, q _ _ (I5.hok.fresh (Nat.le_refl _)) rfl⟩
theorem e_rev (he : JE G W X e m) : JE G W X (.Subscript e (.Slice none none (some (.UnaryOp .USub (.Constant (.int 1) k p1) p2)) p3) pos) (mRev m) := by
  refine PE.to (pe_rev he) fun σ H Q r => ?_
  refine rX.seq (R := RV (wd G X)) (f := fun v _ h1 => kRev v h1) r fun v x ρ1 H1 env h1 S1 r1 w1 => ?_
  unfold kRev at w1
  split at w1
  · rename_i xs q
    obtain ⟨a, vs, e1, e2, e3⟩ := list_at S1.hp r1 q
    exact .inl ⟨a, vs, e1, e2, fun p hp => Wp.newL w1 S1.hp e3.reverse hp⟩
  · rename_i xs q
    obtain ⟨a, vs, e1, e2, e3⟩ := tup_at r1 q
    exact .inr ⟨a, vs, e1, e2.sq, Wp.newT w1 S1.hp e3.reverse⟩
  · exact w1.elim
/-! ### {} -/
theorem e_dict0 : JE G W X (.Dict [] [] pos) (mC (.dict [])) := by
  refine PE.to pe_dnewK fun σ H Q q p hp => ?_
  obtain ⟨ρ, env, h, S, w⟩ := q
  exact w ρ _ _ (S.hp.stepNew hp) (S.hp.new hp) ⟨p, [], rfl, upd_same, S.hp.fresh hp, rfl⟩
end

/-! ### stores into cells -/
/-- cell[i] = v -/
def kSub (o i v : Val) (h : Hep) : Option Hep := match o, i, v with
  | .ref n, .dat (.int k), .dat d => (match h[n]? with
    | some (.lst xs) => (match ixN xs.length k with
      | some j => some (h.set n (.lst (xs.set j d)))
      | none => none)
    | _ => none)
  | .ref n, .dat (.int k), .ref m => (match h[n]? with
    | some (.refs xs) => (match ixN xs.length k with
      | some j => some (h.set n (.refs (xs.set j m)))
      | none => none)
    | _ => none)
  | _, _, _ => none
def mStore (me mo mi : ME) : MS := fun env h => (me env h).st env fun v h1 => (mo env h1).st env fun o h2 => (mi env h2).st env fun i h3 => match kSub o i v h3 with
  | some h4 => .nx env h4
  | none => .bad
def tSto (o i v : V) (H : Hp) (Q : Hp → Prop) : Prop := ∃ p xs k j, o = .ref p ∧ i = .int k ∧ H p = some (.lst xs) ∧ ixN xs.length k = some j ∧ Q (upd H p (.lst (xs.set j v)))
section
variable {G : Gh} {W : WX} {X : Cx} {e o i : Expr} {me mo mi : ME} {tpos pos : Pos} {op : Operator}
theorem sub_ok {K : PySem.W.Frag} {G : Gh} {H : Hp} {ρ : Rho} {h h4 : Hep} {ov iv v : Val} {x y z : V} (S : SimH K G H ρ h) (ro : RepV K G H ρ ov x) (ri : RepV K G H ρ iv y) (rv : RepV K G H ρ v z) (e : kSub ov iv v h = some h4) :
    ∃ p vs k j, x = .ref p ∧ y = .int k ∧ H p = some (.lst vs) ∧ ixN vs.length k = some j ∧ Step ρ H ρ (upd H p (.lst (vs.set j z))) ∧ SimH K G (upd H p (.lst (vs.set j z))) ρ h4 := by
  unfold kSub at e
  split at e
  · rename_i n k d
    split at e
    · rename_i xs q
      split at e
      · rename_i j ej
        cases e
        obtain ⟨p, vs, rfl, e2, e3, e4⟩ := S.cell_at ro q
        have st : Step ρ H ρ (upd H p (.lst (vs.set j z))) := S.stepSet e2
        exact ⟨p, vs, k, j, rfl, ri, e3, by rw [e4.len]; exact ej, st, S.set e2 ⟨_, upd_same, (e4.set rv j).step st⟩⟩
      · cases e
    · cases e
  · rename_i n k m
    split at e
    · rename_i xs q
      split at e
      · rename_i j ej
        cases e
        obtain ⟨p, vs, rfl, e2, e3, hl, e4⟩ := refs_cell S ro q
        have st : Step ρ H ρ (upd H p (.lst (vs.set j z))) := S.stepSet e2
        refine ⟨p, vs, k, j, rfl, ri, e3, by rw [hl]; exact ej, st, S.set e2 ⟨_, upd_same, by simp [hl], fun i' m' v' e5 e6 => ?_⟩⟩
        by_cases hj : j = i'
        · subst hj
          have h1 : j < xs.length := by simpa using (List.getElem?_eq_some_iff.mp e5).1
          rw [List.getElem?_set_self h1] at e5
          rw [List.getElem?_set_self (by rw [hl]; exact h1)] at e6
          cases e5
          cases e6
          exact rv
        · rw [List.getElem?_set_ne hj] at e5 e6
          exact e4 i' m' v' e5 e6
      · cases e
    · cases e
  · cases e
theorem s_store (he : JE G W X e me) (ho : JE G W X o mo) (hi : JE G W X i mi) (hs : swapsWithSole [.Subscript o i tpos] e pos.line X.env = pure false := by rfl) (hw : swappedStores [.Subscript o i tpos] e X.env = pure none := by rfl)
    (h1 : (assignEach [.Subscript o i tpos] X.env).map (·.2) = [assign (.Subscript o i tpos) X.env] := by rfl)
    (ha : ∀ v, assign (.Subscript o i tpos) X.env v = (do
      let ov ← holding [v] (eval o X.env)
      let iv ← holding [v, ov] (eval i X.env)
      standAt tpos
      holding [v, ov, iv] (setItem ov iv v)
      release [v, ov, iv] []) := by intro _; rfl) : JS G W X (.Assign [.Subscript o i tpos] e pos) (mStore me mo mi) := by
  refine PS.to (ps_asg he (pg_sub ho hi set_list ha) hs hw h1) fun E σ H r => ?_
  refine rS.seq (R := RV (wd G X)) (f := fun v env h1 => (mo env h1).st env fun o h2 => (mi env h2).st env fun i h3 => match kSub o i v h3 with
    | some h4 => .nx env h4
    | none => .bad) r fun v x ρ1 H1 env h1 S1 r1 w1 => ?_
  refine ⟨ρ1, env, h1, S1, (Ws.st (R := RV (wd G X)) S1 w1).imp fun y H2 ⟨ρ2, h2, ov, st2, S2, r2, w2⟩ => ?_⟩
  refine ⟨ρ2, env, h2, S2, (Ws.st (R := RV (wd G X)) S2 w2).imp fun z H3 ⟨ρ3, h3, iv, st3, S3, r3, w3⟩ => ?_⟩
  split at w3
  · rename_i h4 ek
    obtain ⟨p, vs, k, j, q1, q2, q3, q4, q5, q6⟩ := sub_ok S3.hp (r2.step st3) r3 (r1.step (st2.trans st3)) ek
    exact ⟨p, vs, k, j, q1, q2, q3, q4, w3 ρ3 _ _ q5 (S3.step q5 q6)⟩
  · exact w3.elim
end

/-! ### in-place operators: ints -/
def ipOp : Operator → Option (Int → Int → Int)
  | .Add => some (· + ·)
  | .Sub => some (· - ·)
  | _ => none
def kIp (f : Int → Int → Int) (a b : Val) : Option Int := match a, b with
  | .dat (.int i), .dat (.int j) => some (f i j)
  | _, _ => none
/-- name += e -/
def mAugI (i : Nat) (f : Int → Int → Int) (m : ME) : MS := fun env h => match env[i]? with
  | some (some x) => (m env h).st env fun y h1 => match kIp f x y with
    | some z => .nx (env.set i (some (.dat (.int z)))) h1
    | none => .bad
  | _ => .bad
/-- cell[i] += e -/
def mAugS (f : Int → Int → Int) (mo mi m : ME) : MS := fun env h => (mo env h).st env fun o h1 => (mi env h1).st env fun i h2 => match dIx o i h2 with
  | .ok x h3 => (m env h3).st env fun y h4 => (match kIp f x y with
    | some z => (match kSub o i (.dat (.int z)) h4 with
      | some h5 => .nx env h5
      | none => .bad)
    | none => .bad)
  | _ => .bad
section
variable {G : Gh} {W : WX} {X : Cx} {e o i : Expr} {m mo mi : ME} {tpos pos p : Pos} {op : Operator} {f : Int → Int → Int}
theorem kIp_ok {K G H ρ a b z} {x y : V} (ra : RepV K G H ρ a x) (rb : RepV K G H ρ b y) (e : kIp f a b = some z) : ∃ i j, x = .int i ∧ y = .int j ∧ f i j = z := by
  unfold kIp at e
  split at e
  · cases e
    exact ⟨_, _, ra, rb, rfl⟩
  · cases e
theorem s_aug {n : Nat} {x : Str} (ho : PIp X op (ipI f)) (hN : X.N.Nodup) (hi : X.N[n]? = some x) (hx : Loc X.env.scope x) (he : JE G W X e m) (hf : X.fn x = true ∨ X.env.scope.names.lookup x = some .local := by first | exact .inl rfl | exact .inr rfl | assumption) :
    JS G W X (.AugAssign (.Name x p) op e pos) (mAugI n f m) := by
  refine PS.to (ps_aug hN hi hx he ho hf) fun E σ H r => ?_
  obtain ⟨ρ, env, h, S, w⟩ := r
  unfold mAugI at w
  split at w
  · rename_i v ev
    obtain ⟨u, e1, ru⟩ := S.env.at_ n v ev
    refine ⟨u, e1, ρ, env, h, S, (Ws.st (R := RV (wd G X)) S w).imp fun y H2 ⟨ρ2, h2, yv, st2, S2, r2, w2⟩ => ?_⟩
    split at w2
    · rename_i z ez
      obtain ⟨a, b, rfl, rfl, rfl⟩ := kIp_ok (ru.step st2) r2 ez
      exact ⟨a, b, rfl, rfl, w2.nx (S2.set n rfl)⟩
    · exact w2.elim
  · exact w.elim
def rGetL (K : PySem.W.Frag) : V → V → Hp → VK → Prop := fun o i H Q => ∃ p xs k z, o = .ref p ∧ i = .int k ∧ SqL K H p xs ∧ atI xs k = some z ∧ Q z H
end
end Vi
end Vi14_

section Vi15_
set_option Elab.async false
set_option linter.all false
set_option maxRecDepth 100000
namespace Vi
open PySem PySem.Spec PyProof.Rows L2

/-! ### small words for derivations -/
def visB (sc : Scope) (x : Str) : Bool := match sc.names.lookup x with
  | some .local => true
  | some .cell => true
  | some .free => true
  | _ => false
theorem vis_by {sc : Scope} {x : Str} (h : visB sc x = true) : Vis sc x := by
  unfold visB at h
  unfold Vis
  split at h
  · rename_i e; exact .inl e
  · rename_i e; exact .inr (.inl e)
  · rename_i e; exact .inr (.inr e)
  · cases h
def locB (sc : Scope) (x : Str) : Bool := match sc.names.lookup x with
  | some .local => true
  | some .cell => true
  | _ => false
theorem loc_by {sc : Scope} {x : Str} (h : locB sc x = true) : Loc sc x := by
  unfold locB at h
  unfold L2.Loc
  split at h
  · rename_i e; exact .inl e
  · rename_i e; exact .inr e
  · cases h
theorem ts3 {Ts : List String} (h : (Ts.all fun T => T == "list" || T == "tuple" || T == "str") = true := by decide) : ∀ T ∈ Ts, T = "list" ∨ T = "tuple" ∨ T = "str" := fun T hT => by
  have q := List.all_eq_true.mp h T hT
  simp only [Bool.or_eq_true, beq_iff_eq] at q
  rcases q with (q | q) | q
  · exact .inl q
  · exact .inr (.inl q)
  · exact .inr (.inr q)
section
variable {G : Gh} {X : Cx}
theorem ms_append : ∀ T ∈ ["list"], MthD G X "append" T fAppend := fun T h => by
  have e : T = "list" := by simpa using h
  rw [e]
  exact m_append
theorem ms_extend : ∀ T ∈ ["list"], MthD G X "extend" T fExtend := fun T h => by
  have e : T = "list" := by simpa using h
  rw [e]
  exact m_extend
theorem ms_pop : ∀ T ∈ ["list"], MthD G X "pop" T fPop := fun T h => by
  have e : T = "list" := by simpa using h
  rw [e]
  exact m_pop
theorem ms_count (hu : X.A.units + 64 < cLine) : ∀ T ∈ ["list", "tuple", "str"], MthD G X "count" T fCount := fun T h => by
  have e : T = "list" ∨ T = "tuple" ∨ T = "str" := by simpa using h
  rcases e with e | e | e
  · rw [e]; exact m_countL hu
  · rw [e]; exact m_countT hu
  · rw [e]; exact m_countS
theorem ms_index (hu : X.A.units + 64 < cLine) : ∀ T ∈ ["list", "tuple"], MthD G X "index" T fIndex := fun T h => by
  have e : T = "list" ∨ T = "tuple" := by simpa using h
  rcases e with e | e
  · rw [e]; exact m_indexL hu
  · rw [e]; exact m_indexT hu
theorem pe_bltTy {x : Str} {T : String} {pos : Pos} (hg : Gl X x) (hm : X.mg x = none) (hv : bootBuiltins x = some (.type T)) (hn : x ≠ "__name__" := by decide) (hd : (x == ("__debug__" : Str)) = false := by decide) : PE X (.Name x pos) (tC (.ty T)) := pe_bltn hg hm hv rfl hn hd
end

/-! ### what the top leaves, looked at -/
open PySem.W in
mutual
/-- the data d stands at the value u in K -/
def repB (K : Frag) : PyData → Value → Bool
  | .none, u => (match u with | .none => true | _ => false)
  | .bool b, u => (match u with | .bool c => b == c | _ => false)
  | .int i, u => (match u with | .int j _ => decide (i = j) | _ => false)
  | .str x, u => (match u with | .str y _ => decide (x = y) | _ => false)
  | .tuple ds, u => (match u with
    | .ref a => (match K.lookup a with
      | some ⟨.type c, none, .seq its _, _⟩ => c == "tuple" && (decide (its.size ≤ sizeLine) && repsB K ds its.toList)
      | _ => false)
    | _ => false)
  | .list _, _ => false
  | .dict _, _ => false
def repsB (K : Frag) : List PyData → List Value → Bool
  | [], us => us.isEmpty
  | d :: ds, us => (match us with
    | [] => false
    | u :: r => repB K d u && repsB K ds r)
end
mutual
theorem repB_ok {K : PySem.W.Frag} : ∀ (d : PyData) (u : Value), repB K d u = true → ∃ v, RelV v u ∧ ∀ H ρ, Rep K H ρ d v
  | .none, u, h => by
    cases u with
    | none => exact ⟨.non, rfl, fun _ _ => rfl⟩
    | _ => cases h
  | .bool b, u, h => by
    cases u with
    | bool c =>
      have e : b = c := by simpa [repB] using h
      exact ⟨.bl c, rfl, fun _ _ => by rw [e]; rfl⟩
    | _ => cases h
  | .int i, u, h => by
    cases u with
    | int j t =>
      have e : i = j := of_decide_eq_true h
      exact ⟨.int j, ⟨t, rfl⟩, fun _ _ => by rw [e]; rfl⟩
    | _ => cases h
  | .str x, u, h => by
    cases u with
    | str y t =>
      have e : x = y := of_decide_eq_true h
      exact ⟨.str y, ⟨t, rfl⟩, fun _ _ => by rw [e]; rfl⟩
    | _ => cases h
  | .tuple ds, u, h => by
    cases u with
    | ref a =>
      have h : (match K.lookup a with
        | some ⟨.type c, none, .seq its _, _⟩ => c == "tuple" && (decide (its.size ≤ sizeLine) && repsB K ds its.toList)
        | _ => false) = true := h
      split at h
      · rename_i c its n sl e
        rw [Bool.and_eq_true, Bool.and_eq_true] at h
        obtain ⟨h1, h2, h3⟩ := h
        obtain ⟨vs, r, q⟩ := repsB_ok ds its.toList h3
        have hc : c = "tuple" := by simpa using h1
        exact ⟨.ref a, rfl, fun H ρ => ⟨a, vs, rfl, .inr ⟨_, its, n, e, by rw [hc], rfl, rfl, of_decide_eq_true h2, r⟩, q H ρ⟩⟩
      · cases h
    | _ => cases h
  | .list _, _, h => by cases h
  | .dict _, _, h => by cases h
theorem repsB_ok {K : PySem.W.Frag} : ∀ (ds : List PyData) (us : List Value), repsB K ds us = true → ∃ vs, Vals vs us ∧ ∀ H ρ, Reps K H ρ ds vs
  | [], us, h => by
    cases us with
    | nil => exact ⟨[], .nil, fun _ _ => rfl⟩
    | cons u r => cases h
  | d :: ds, us, h => by
    cases us with
    | nil => cases h
    | cons u r =>
      have h : (repB K d u && repsB K ds r) = true := h
      rw [Bool.and_eq_true] at h
      obtain ⟨v, r1, q1⟩ := repB_ok d u h.1
      obtain ⟨vs, r2, q2⟩ := repsB_ok ds r h.2
      exact ⟨v :: vs, .cons r1 r2, fun H ρ => ⟨v, vs, rfl, q1 H ρ, q2 H ρ⟩⟩
end
/-- a module's constant -/
def gloB (K : PySem.W.Frag) (x : Str) (d : PyData) : Bool := match PySem.W.nsIn K mainGlobals x with
  | some (some u) => repB K d u
  | _ => false
theorem gloB_ok {K : PySem.W.Frag} {h : Heap} {mg : Str → Option Value} (X : K.In h) (G : h.Ns mainGlobals mg) {x : Str} {d : PyData} (c : gloB K x d = true) : GloD K mg x d := by
  unfold gloB at c
  split at c
  · rename_i u e
    obtain ⟨v, r, q⟩ := repB_ok d u c
    exact ⟨u, v, PySem.W.mg_of X G e, r, q⟩
  · cases c
/-- an own class of errors -/
def exB (K : PySem.W.Frag) (x : Str) : Bool := PySem.W.excIn K (He.ga K x) He.veBase "ValueError.__new__" && (PySem.W.keepIn K (.ref (He.ga K x)) && (decide (PySem.W.subIn K (.ref (He.ga K x)) (.type "BaseException") = some true) && (decide (PySem.W.typeIn K (.ref (He.ga K x)) = some (.type "type")) && decide (PySem.W.nsIn K mainGlobals x = some (some (.ref (He.ga K x)))))))
theorem exB_ok {K : PySem.W.Frag} {h : Heap} {mg : Str → Option Value} (X : K.In h) (G : h.Ns mainGlobals mg) {x : Str} (c : exB K x = true) : ExC K mg x (He.ga K x) := by
  unfold exB at c
  simp only [Bool.and_eq_true, decide_eq_true_eq] at c
  obtain ⟨c1, c2, c3, c4, c5⟩ := c
  exact ⟨PySem.W.mg_of X G c5, c1, c2, c3, c4⟩
def ccB (K : PySem.W.Frag) (x : Str) : Bool :=
  decide (PySem.W.findIn K (.ref (He.ga K x)) "__getattribute__" = some (some (.builtin "BaseException.__getattribute__"))) && (decide (PySem.W.findIn K (.ref (He.ga K x)) "__getattr__" = some none) && (decide (PySem.W.subIn K (.ref (He.ga K x)) (.type "BaseException") = some true) && (PySem.W.hasDictIn K (He.ga K x) &&
  (decide (PySem.W.findIn K (.ref (He.ga K x)) "__class__" = some (some (.builtin "object.__class__"))) && (decide (PySem.W.specialIn K (.builtin "object.__class__") "__get__" = some (some (.builtin "getset_descriptor.__get__"))) && (decide (PySem.W.takesIn K (.builtin "object.__class__") = some true) && decide (PySem.W.mroIn K (He.ga K x) (.type "object") = some true)))))))
theorem ccB_ok {K : PySem.W.Frag} {x : Str} (c : ccB K x = true) : ExcC K (He.ga K x) := by
  unfold ccB at c
  simp only [Bool.and_eq_true, decide_eq_true_eq] at c
  obtain ⟨c1, c2, c3, c4, c5, c6, c7, c8⟩ := c
  exact ⟨c1, c2, c3, c4, c5, c6, c7, c8⟩
/-- the table of errors -/
def knB (K : PySem.W.Frag) (L : List (Str × Str × Bool)) : Bool := L.all fun r => ccB K r.1 && (decide (PySem.W.nsIn K mainGlobals r.1 = some (some (.ref (He.ga K r.1)))) && (match r.2.1 == ("ValueError" : Str) with
  | true => decide (PySem.W.kitOne K (.ref (He.ga K r.1)) (.type "ValueError") = some r.2.2) && decide (PySem.W.nsIn K mainGlobals "ValueError" = some none)
  | false => decide (PySem.W.exmOne K (.ref (He.ga K r.1)) (.ref (He.ga K r.2.1)) = some r.2.2) && (decide (PySem.W.kitOne K (.ref (He.ga K r.1)) (.ref (He.ga K r.2.1)) = some r.2.2) && decide (PySem.W.nsIn K mainGlobals r.2.1 = some (some (.ref (He.ga K r.2.1)))))))
def knF (L : List (Str × Str × Bool)) (x y : Str) : Option Bool := (L.find? fun r => r.1 == x && r.2.1 == y).map (·.2.2)
theorem knB_ok {K : PySem.W.Frag} {h : Heap} {mg : Str → Option Value} (X : K.In h) (G : h.Ns mainGlobals mg) {L : List (Str × Str × Bool)} (c : knB K L = true) : ExcW K mg (knF L) := by
  have at_ : ∀ x y b, knF L x y = some b → (x, y, b) ∈ L := fun x y b e => by
    unfold knF at e
    cases q : L.find? (fun r => r.1 == x && r.2.1 == y) with
    | none => rw [q] at e; cases e
    | some r =>
      rw [q] at e
      have e1 := List.find?_some q
      have e2 := List.mem_of_find?_eq_some q
      rw [Bool.and_eq_true, beq_iff_eq, beq_iff_eq] at e1
      obtain ⟨r1, r2, r3⟩ := r
      obtain ⟨a1, a2⟩ := e1
      have e : some r3 = some b := e
      cases e
      subst a1
      subst a2
      exact e2
  have row : ∀ x y b, knF L x y = some b → ccB K x = true ∧ mg x = some (.ref (He.ga K x)) ∧ (y = "ValueError" → PySem.W.kitOne K (.ref (He.ga K x)) (.type "ValueError") = some b ∧ mg "ValueError" = none) ∧ (y ≠ "ValueError" → PySem.W.exmOne K (.ref (He.ga K x)) (.ref (He.ga K y)) = some b ∧ PySem.W.kitOne K (.ref (He.ga K x)) (.ref (He.ga K y)) = some b ∧ mg y = some (.ref (He.ga K y))) := fun x y b e => by
    have q := List.all_eq_true.mp c _ (at_ x y b e)
    simp only at q
    rw [Bool.and_eq_true, Bool.and_eq_true, decide_eq_true_eq] at q
    obtain ⟨q1, q2, q3⟩ := q
    refine ⟨q1, PySem.W.mg_of X G q2, fun ey => ?_, fun ey => ?_⟩
    · rw [ey, show (("ValueError" : Str) == "ValueError") = true from by simp] at q3
      simp only [Bool.and_eq_true, decide_eq_true_eq] at q3
      exact ⟨q3.1, PySem.W.mg_none_of X G q3.2⟩
    · rw [show (y == ("ValueError" : Str)) = false from by simpa using ey] at q3
      simp only [Bool.and_eq_true, decide_eq_true_eq] at q3
      exact ⟨q3.1, q3.2.1, PySem.W.mg_of X G q3.2.2⟩
  refine ⟨fun x y b C D e hC hD => ?_, fun x y b C e hC => ?_, fun x b C e hC => ?_⟩
  · obtain ⟨a1, a2, a3, a4⟩ := row x y b e
    rw [a2] at hC
    cases hC
    by_cases ey : y = "ValueError"
    · rw [ey, (a3 ey).2] at hD
      cases hD
    · obtain ⟨b1, b2, b3⟩ := a4 ey
      rw [b3] at hD
      cases hD
      exact ⟨b1, b2⟩
  · obtain ⟨a1, a2, _⟩ := row x y b e
    rw [a2] at hC
    cases hC
    exact ccB_ok a1
  · obtain ⟨a1, a2, a3, _⟩ := row x "ValueError" b e
    rw [a2] at hC
    cases hC
    exact (a3 rfl).1
end Vi
end Vi15_

section Vi16_
set_option Elab.async false
set_option linter.all false
set_option maxRecDepth 100000
namespace Vi
open PySem PySem.Spec PyProof.Rows L2

theorem Fn.cast {P : Program} {w : World} {K : PySem.W.Frag} {mg : Str → Option Value} {base : Heap} {T T' : List (Addr × Str)} {k : Nat} {x : Str} {np : Nat} {mf : FL} (e : T' = T) (F : Fn P w K mg base T k x np mf) : Fn P w K mg base T' k x np mf := by
  rw [e]
  exact F
/-! ### defs that make lambdas: their tables -/
def TT (K : PySem.W.Frag) (L : List (Str × Str)) : List (Addr × Str) := L.map fun r => ((He.cT K (r.1, none)).2, r.2)
def TC (K : PySem.W.Frag) (L : List (Str × Str)) : List (Addr × Addr) := L.map fun r => He.cT K (r.1, none)
theorem tt_mem {K : PySem.W.Frag} {L : List (Str × Str)} {x q : Str} (h : (x, q) ∈ L) : ((He.cT K (x, none)).2, q) ∈ TT K L := List.mem_map.mpr ⟨_, h, rfl⟩
theorem tc_mem {K : PySem.W.Frag} {L : List (Str × Str)} {x q : Str} (h : (x, q) ∈ L) : He.cT K (x, none) ∈ TC K L := List.mem_map.mpr ⟨_, h, rfl⟩
theorem tt_u {K : PySem.W.Frag} {L : List (Str × Str)} {x q : Str} (h : (x, q) ∈ L) (nd : (L.map fun r => (He.cT K (r.1, none)).2).Nodup) : ∀ p ∈ TT K L, p.1 = (He.cT K (x, none)).2 → p.2 = q := fun p hp e => by
  obtain ⟨r, hr, rfl⟩ := List.mem_map.mp hp
  have key : ∀ {l : List (Str × Str)} {r s : Str × Str}, (l.map fun r => (He.cT K (r.1, none)).2).Nodup → r ∈ l → s ∈ l → (He.cT K (r.1, none)).2 = (He.cT K (s.1, none)).2 → r = s := by
    intro l
    induction l with
    | nil => intro r s _ h; cases h
    | cons a l ih =>
      intro r s nd hr hs e
      rw [List.map_cons, List.nodup_cons] at nd
      rcases List.mem_cons.mp hr with er | hr'
      · rcases List.mem_cons.mp hs with es | hs'
        · rw [er, es]
        · exact (nd.1 (List.mem_map.mpr ⟨s, hs', by rw [← er]; exact e.symm⟩)).elim
      · rcases List.mem_cons.mp hs with es | hs'
        · exact (nd.1 (List.mem_map.mpr ⟨r, hr', by rw [← es]; exact e⟩)).elim
        · exact ih nd.2 hr' hs' e
  rw [key nd hr h e]
section
variable {P : Program} {w : World} {K : PySem.W.Frag} {mg : Str → Option Value} {base : Heap} {T : List (Addr × Str)} {k np : Nat} {x : Str} {params : Arguments} {body : List Stmt} {scope : Scope} {fd : FuncData} {N ps : List Str} {mb : MS}
theorem fnok_ofL (F : FunD K x x params body scope [] [] (He.ga K x) fd) (Sc : FnScope N ps scope) (hp : ps.length = np)
    (hb : ∀ (G : Gh), G.T = T → ∀ (A : Around) (outer : List PySem.Env) (s : Shared) (H : Hp) (E : XK), Room k (A.deeper (envOfC x scope s.heap.objs.size (He.ga K x) (.ref (He.cT K (x, none)).1))) →
      JSs G (fun cls dx _ H => E cls dx H) (cxOf (L2.CX P w) P w K mg base N x scope (He.ga K x) (.ref (He.cT K (x, none)).1) A outer s H E) body mb) :
    FnOk P w K mg base (L2.CX P w) (k + 1) (He.ga K x) fd ps (spM K mg T np (mFun N.length mb)) := by
  obtain ⟨oc, od, dV, kV, doc, pm, an, cdv, ct, osl, rfl, lk, hcd, _, _⟩ := F.ex
  obtain ⟨c, rfl⟩ := He.codeIn_ref hcd
  have e : (He.cT K (x, none)).1 = c := He.codeOf_eq (p := (x, none)) lk rfl
  rw [e] at hb
  refine fn_of lk hcd Sc (fun vs H Q E h => by rw [hp]; exact h.1) fun A outer s H vs Q E hr hsp => ?_
  obtain ⟨hl, G, ρ, h, args, hT, S, r, hw⟩ := hsp
  exact ⟨_, hb G hT A outer s H E hr, body_reads S r hw⟩
theorem Fn.ofL (F : FunD K x x params body scope [] [] (He.ga K x) fd) (hm : mg x = some (.ref (He.ga K x))) (Sc : FnScope N ps scope) (hp : ps.length = np) (hbind : ∀ (kV doc pm : Value) (an : Option Addr) (cdv ct : Value) (us : List Value), us.length = ps.length → bindArgs (PySem.W.fnOf x x params body scope .none kV doc pm an cdv ct) ⟨us, []⟩ = pure (ps.zip us))
    (hb : ∀ (G : Gh), G.T = T → ∀ (A : Around) (outer : List PySem.Env) (s : Shared) (H : Hp) (E : XK), Room k (A.deeper (envOfC x scope s.heap.objs.size (He.ga K x) (.ref (He.cT K (x, none)).1))) →
      JSs G (fun cls dx _ H => E cls dx H) (cxOf (L2.CX P w) P w K mg base N x scope (He.ga K x) (.ref (He.cT K (x, none)).1) A outer s H E) body mb) :
    Fn P w K mg base T (k + 1) x np (mFun N.length mb) := ⟨_, fd, ps, fnok_ofL F Sc hp hb, hm, F.kp, F.bindsN hbind⟩
end
section
variable {G : Gh} {W : WX} {X : Cx} {x a : Str} {g c P : Addr} {k : Nat} {pg : Arguments} {bg : List Stmt} {sg : Scope} {fdg : FuncData} {Ng : List Str} {params : Arguments} {body : Expr} {scope : Scope} {p lpos pos : Pos} {mb : ME} {mbg : (Hep → Out Val) → MS} {n : Nat}
theorem e_lamD (hg : Gl X x) (hm : X.mg x = some (.ref g)) (D : FunD X.K x x pg bg sg [] [] g fdg)
    (hbg : ∀ (kV doc pm : Value) (an : Option Addr) (cdv ct : Value) (us : List Value), us.length = ([a] : List Str).length → bindArgs (PySem.W.fnOf x x pg bg sg .none kV doc pm an cdv ct) ⟨us, []⟩ = pure (([a] : List Str).zip us))
    (Sg : FnScope Ng [a] sg) (hNg : Ng[0]? = some a) (hva : Vis sg a) (hG : ∀ cdg, Room k X.A → GivesM X G.T Ng x sg g cdg bg a mbg)
    (TB : LamX.TabB X.base X.mg c P) (hcode : X.env.code = .ref c) (hmT : (P, X.env.qual ++ "<lambda>") ∈ G.T) (hu : ∀ p ∈ G.T, p.1 = P → p.2 = X.env.qual ++ "<lambda>") (hr : Room (k + 2) X.A) (L : LamX.LamS X.env.scope scope) (hdef : defaultsOf params X.env = ([], []))
    (hbind : ∀ (q : Str) (cl : List (Str × Addr)) (pm cv ctv : Value), bindArgs (PySem.W.kla_fn "<lambda>" q params body scope cl pm cv ctv) ⟨[], []⟩ = pure [])
    (hbody : ∀ (A : Around) (outer : List PySem.Env) (s : Shared) (H : Hp) (E : XK) (f c' : Addr), Room k (A.deeper (LamX.lamEnv X scope s.heap.objs.size f c')) → JE G (fun cls d _ H => E cls d H) (LamX.lamCx X A outer s H E scope f c') body mb)
    (hn : Ng.length = n := by rfl) (hdb : (x == ("__debug__" : Str)) = false := by decide) (hd : (a == ("__debug__" : Str)) = false := by decide) (hcd : (a == ("__classdict__" : Str)) = false := by decide) :
    JE G W X (.Call (.Name x p) [.Lambda params body scope lpos] [] pos) (mLam (fun th => mFun n (mbg th)) mb) := by
  subst hn
  obtain ⟨oc, od, dV, kV, doc, pm, an, cdv, ct, osl, rfl, lk, hcg, hD, _⟩ := D.ex
  rcases hD with ⟨_, rfl⟩ | ⟨z, _⟩
  · exact e_lam hg hm D.kp lk hcg (.all fun us hl => hbg _ _ _ _ _ _ us hl) Sg hNg hva (hG _) TB hcode hmT hu hr L hdef hbind hbody hdb hd hcd
  · exact absurd rfl z
end

/-! ### the end -/
def G0 (T : List (Addr × Str)) : Gh := ⟨T, fun _ _ => True, fun _ _ => trivial, none, none⟩
/-- the script as it comes -/
def IsScr (ns : List Int) (v : Val) : Prop := v = .scr ns ∨ v = .dat (.list (ns.map .int))
theorem sp_law {K : PySem.W.Frag} {mg : Str → Option Value} {L : List (Str × Str)} {H : Hp} {a : Addr} {ns : List Int} {mf : FL} (hT : ∀ p ∈ TC K L, H p.2 = some (.tbl #[])) (hS : SqL K H a (ns.map V.int))
    (hm : ∀ v, IsScr ns v → ∃ h, mf [v] [] = .ok (.dat (.bool true)) h) : spM K mg (TT K L) 1 mf [.ref a] H (fun v _ => v = .bl true) fun _ _ _ => False := by
  have tabs : LamX.Tabs (TT K L) H := fun p hp => by
    obtain ⟨r, hr, rfl⟩ := List.mem_map.mp hp
    exact LamX.TabS.nil (hT _ (List.mem_map.mpr ⟨r, hr, rfl⟩))
  have S : SimH K (G0 (TT K L)) H [] [] := ⟨rfl, fun i j a e => by simp at e, fun n a e => by simp at e, fun n e => by simp at e, tabs, trivial⟩
  have fin : ∀ v, IsScr ns v → RepV K (G0 (TT K L)) H [] v (.ref a) → spM K mg (TT K L) 1 mf [.ref a] H (fun v _ => v = .bl true) fun _ _ _ => False := fun v iv rv => by
    obtain ⟨h, e⟩ := hm v iv
    refine ⟨rfl, G0 (TT K L), [], [], [v], rfl, S, .cons rv .nil, ?_⟩
    rw [e]
    exact fun ρ' H' b st S' rb => rb
  rcases hS with (hS | ⟨o, hS⟩) | ⟨o, its, n, q1, q2, q3, q4, q5, q6⟩
  · exact fin (.dat (.list (ns.map .int))) (.inr rfl) ⟨a, _, rfl, ⟨hS, by simp⟩, reps_ints ns⟩
  · exact fin (.scr ns) (.inl rfl) ⟨a, rfl, .inl ⟨⟨o, hS⟩, by simp⟩⟩
  · exact fin (.scr ns) (.inl rfl) ⟨a, rfl, .inr ⟨o, its, n, q1, by assumption, by assumption, by assumption, by assumption, by assumption⟩⟩
end Vi
end Vi16_

section Vi17_
set_option Elab.async false
set_option linter.all false
set_option maxRecDepth 100000
/-! # Vi17: list(range(..)) -/
namespace Vi
open PySem PySem.Spec PyProof.Rows L2
def rgD (a b : Int) : List PyData := (List.range (b - a).toNat).map fun (i : Nat) => .int (a + (i : Nat))
structure RgS (i j : Int) : Prop where
  a : Sm i
  b : Sm j
  n : (j - i).toNat ≤ 2 ^ 24
noncomputable def kLRg1 (vs : List Val) (h : Hep) : Out Val := match vs with
  | [.dat (.int j)] => @ite _ (RgS 0 j) (Classical.propDecidable _) (ok (.list (rgD 0 j)) h) .bad
  | _ => .bad
noncomputable def kLRg2 (vs : List Val) (h : Hep) : Out Val := match vs with
  | [.dat (.int i), .dat (.int j)] => @ite _ (RgS i j) (Classical.propDecidable _) (ok (.list (rgD i j)) h) .bad
  | _ => .bad
noncomputable def kLRgC1 (vs : List Val) (h : Hep) : Out Val := match vs with
  | [.dat (.int j)] => @ite _ (RgS 0 j) (Classical.propDecidable _) (.ok (.ref h.length) (h ++ [.lst (rgD 0 j)])) .bad
  | _ => .bad
def mOne (k : List Val → Hep → Out Val) (m : ME) : ME := fun env h => (m env h).bind fun v h1 => k [v] h1
def mTwo (k : List Val → Hep → Out Val) (m m2 : ME) : ME := fun env h => (m env h).bind fun v h1 => (m2 env h1).bind fun u h2 => k [v, u] h2
theorem reps_ints_of {K : PySem.W.Frag} {H : Hp} {ρ : Rho} (f : Nat → Int) : ∀ l : List Nat, Reps K H ρ (l.map fun i => PyData.int (f i)) (l.map fun i => V.int (f i))
  | [] => Reps.nil
  | i :: l => ⟨_, _, rfl, rfl, reps_ints_of f l⟩
theorem reps_rg {K : PySem.W.Frag} {H : Hp} {ρ : Rho} (a b : Int) : Reps K H ρ (rgD a b) (rgV a b) := reps_ints_of (fun i => a + (i : Nat)) _
section
variable {G : Gh} {W : WX} {X : Cx} {a b : Expr} {p p2 pos pos2 : Pos} {ma mb : ME}
theorem e_lrg1 (hc : X.calm = true) (hg : Gl X "list") (hm : X.mg "list" = none) (hg2 : Gl X "range") (hm2 : X.mg "range" = none) (ha : JE G W X a ma) (na : starEach [a] X.env = (false, eval a X.env) :: starEach [] X.env := by rfl)
    (nb : starEach [.Call (.Name "range" p2) [a] [] pos2] X.env = (false, eval (.Call (.Name "range" p2) [a] [] pos2) X.env) :: starEach [] X.env := by rfl) :
    JE G W X (.Call (.Name "list" p) [.Call (.Name "range" p2) [a] [] pos2] [] pos) (mOne kLRg1 ma) := by
  refine PE.to (pe_listRg hc hg hm (prg_1 hg2 hm2 ha na) nb) fun σ H Q r => ?_
  refine rX.seq (R := RV (wd G X)) (f := fun v _ h1 => kLRg1 [v] h1) r fun v x ρ1 H1 env h1 S1 r1 w1 => ?_
  unfold kLRg1 at w1
  split at w1
  · rename_i j e
    cases e
    split at w1
    · rename_i hj
      have e : x = V.int j := r1
      subst e
      exact ⟨j, rfl, ⟨hj.a.1, hj.a.2, hj.b.1, hj.b.2, hj.n⟩, fun q hq => Wp.newL w1 S1.hp (reps_rg 0 j) hq⟩
    · exact w1.elim
  · exact w1.elim
theorem e_lrgC1 (hc : X.calm = true) (hg : Gl X "list") (hm : X.mg "list" = none) (hg2 : Gl X "range") (hm2 : X.mg "range" = none) (ha : JE G W X a ma) (na : starEach [a] X.env = (false, eval a X.env) :: starEach [] X.env := by rfl)
    (nb : starEach [.Call (.Name "range" p2) [a] [] pos2] X.env = (false, eval (.Call (.Name "range" p2) [a] [] pos2) X.env) :: starEach [] X.env := by rfl) :
    JE G W X (.Call (.Name "list" p) [.Call (.Name "range" p2) [a] [] pos2] [] pos) (mOne kLRgC1 ma) := by
  refine PE.to (pe_listRg hc hg hm (prg_1 hg2 hm2 ha na) nb) fun σ H Q r => ?_
  refine rX.seq (R := RV (wd G X)) (f := fun v _ h1 => kLRgC1 [v] h1) r fun v x ρ1 H1 env h1 S1 r1 w1 => ?_
  unfold kLRgC1 at w1
  split at w1
  · rename_i j e
    cases e
    split at w1
    · rename_i hj
      have e : x = V.int j := r1
      subst e
      exact ⟨j, rfl, ⟨hj.a.1, hj.a.2, hj.b.1, hj.b.2, hj.n⟩, fun q hq => Wp.newC w1 S1.hp (reps_rg 0 j) hq⟩
    · exact w1.elim
  · exact w1.elim
theorem e_lrg2 (hc : X.calm = true) (hg : Gl X "list") (hm : X.mg "list" = none) (hg2 : Gl X "range") (hm2 : X.mg "range" = none) (ha : JE G W X a ma) (hb : JE G W X b mb) (na : starEach [a, b] X.env = (false, eval a X.env) :: starEach [b] X.env := by rfl) (nb : starEach [b] X.env = (false, eval b X.env) :: starEach [] X.env := by rfl) (hp : (backTo pos2 (starEach [b] X.env)).any (·.1) = false := by rfl)
    (nc : starEach [.Call (.Name "range" p2) [a, b] [] pos2] X.env = (false, eval (.Call (.Name "range" p2) [a, b] [] pos2) X.env) :: starEach [] X.env := by rfl) :
    JE G W X (.Call (.Name "list" p) [.Call (.Name "range" p2) [a, b] [] pos2] [] pos) (mTwo kLRg2 ma mb) := by
  refine PE.to (pe_listRg hc hg hm (prg_2 hg2 hm2 ha hb na nb hp) nc) fun σ H Q r => ?_
  refine rX.seq (R := RV (wd G X)) (f := fun v env h1 => (mb env h1).bind fun u h2 => kLRg2 [v, u] h2) r fun v x ρ1 H1 env h1 S1 r1 w1 => ?_
  refine ⟨ρ1, env, h1, S1, (Wp.bind (R := RV (wd G X)) w1).imp fun u H2 z => ?_⟩
  obtain ⟨ρ2, h2, y, s2, q2, r2, w2⟩ := z
  have r1 := RepV.step s2 r1
  unfold kLRg2 at w2
  split at w2
  · rename_i i j e
    cases e
    split at w2
    · rename_i hj
      have e : x = V.int i := r1
      subst e
      have e : u = V.int j := r2
      subst e
      exact ⟨i, j, rfl, rfl, ⟨hj.a.1, hj.a.2, hj.b.1, hj.b.2, hj.n⟩, fun q hq => Wp.newL w2 q2 (reps_rg i j) hq⟩
    · exact w2.elim
  · exact w2.elim
end
end Vi
end Vi17_

section Vi18_
set_option Elab.async false
set_option linter.all false
set_option maxRecDepth 100000
/-! # Vi18: [elt for a in .. if .. for b in .. if ..] -/
namespace Vi
open PySem PySem.Spec PyProof.Rows L2
noncomputable def lc2Go (tg : Tgt) (mt : Env → Hep → Out Bool) (tg1 : Tgt) (mi1 : Env → Hep → Out Src) (mt1 : Env → Hep → Out Bool) (me : ME) (vs1 : List Nat) (n : Nat) (s : Src) (env : Env) : Nat → Nat → Hep → Out Unit
  | 0, _ => fun _ => .bad
  | f + 1, i => fun h => match s.itm i h with
    | none => .bad
    | some none => .ok () h
    | some (some d) => (match asgT tg d env with
      | none => .bad
      | some env1 => (mt env1 h).noEr.bind fun k h1 => if k = true then (mi1 env1 h1).noEr.bind fun s1 h2 => (steps .bad fun f1 => lcGo tg1 mt1 me n s1 (wipeE env1 vs1) f1 0 h2).bind fun _ h3 => lc2Go tg mt tg1 mi1 mt1 me vs1 n s env f (i + 1) h3
        else lc2Go tg mt tg1 mi1 mt1 me vs1 n s env f (i + 1) h1)
noncomputable def mLc2 (md : Mode) (tg : Tgt) (mi : Env → Hep → Out Src) (mt : Env → Hep → Out Bool) (tg1 : Tgt) (mi1 : Env → Hep → Out Src) (mt1 : Env → Hep → Out Bool) (me : ME) (vs vs1 : List Nat) : ME := fun env h =>
  (mi env h).bind fun s h1 => (steps .bad fun f => lc2Go tg mt tg1 mi1 mt1 me vs1 h1.length s (wipeE env vs) f 0 (h1 ++ [md.init])).bind fun _ h2 => lcEnd md h1 h2
section
variable {G : Gh} {W : WX} {X : Cx} {elt tg iter tg1 iter1 : Expr} {ifs ifs1 : List Expr} {scope : Scope} {own : List (Str × Nat)} {pos : Pos} {mi mi1 : Env → Hep → Out Src} {mt mt1 : Env → Hep → Out Bool} {me : ME} {t t1 : Tgt}
theorem lc2_reads (md : Mode) {vs1 : List Nat} (hown : ∀ i ∈ t.ixs, i ∈ own.map (·.2)) (hown1 : ∀ i ∈ t1.ixs, i ∈ vs1) {σ : L2.St} {H : Hp} {Q : VK} (r : rE (wd G X) W (mLc2 md t mi mt t1 mi1 mt1 me (own.map (·.2)) vs1) σ H Q) :
    tLc2 (rX (wd G X) W (RIt (wd G X)) mi) (rG (wd G X) t) (rT (wd G X) W0 mt) (rX (wd G X) W0 (RIt (wd G X)) mi1) (rG (wd G X) t1) (rT (wd G X) W0 mt1) (rE (wd G X) W0 me) (own.map (·.2)) vs1 σ H Q := by
  refine rX.seq (R := RIt (wd G X)) (f := fun s env h1 => (steps .bad fun f => lc2Go t mt t1 mi1 mt1 me vs1 h1.length s (wipeE env (own.map (·.2))) f 0 (h1 ++ [md.init])).bind fun _ h2 => lcEnd md h1 h2) r fun s J ρ1 H1 env h1 S1 r1 w1 => ?_
  intro D0 hD0
  -- the new list
  have st0 : Step ρ1 H1 (ρ1 ++ [some D0]) (upd H1 D0 (.lst [])) := S1.hp.stepCell hD0
  have Sm : SimH X.K G (upd H1 D0 (.lst [])) (ρ1 ++ [some D0]) (h1 ++ [md.init]) := by
    refine S1.hp.cell hD0 ?_
    cases md with
    | data => exact ⟨[], upd_same, rfl⟩
    | cell => exact ⟨[], upd_same, rfl⟩
    | refs => exact ⟨[], upd_same, rfl, fun i n v e => by simp at e⟩
  have nb : steps .bad (fun f => lc2Go t mt t1 mi1 mt1 me vs1 h1.length s (wipeE env (own.map (·.2))) f 0 (h1 ++ [md.init])) ≠ .bad := fun e => by
    rw [e] at w1
    exact w1
  obtain ⟨f, hf⟩ := steps_ok nb
  rw [← hf] at w1
  have hD1 : (ρ1 ++ [some D0])[h1.length]? = some (some D0) := by
    rw [← S1.hp.len, List.getElem?_append_right (Nat.le_refl _)]
    simp
  -- where D0 stands later on
  have stays : ∀ {ρ' H'}, Step (ρ1 ++ [some D0]) (upd H1 D0 (.lst [])) ρ' H' → ∀ {h'}, SimH X.K G H' ρ' h' → ∀ c, h'[h1.length]? = some c → c ≠ .dead → ρ'[h1.length]? = some (some D0) := fun {ρ' H'} st {h'} S' c e nd => by
    obtain ⟨a, e1, _⟩ := S'.alive e nd
    have q := st.live h1.length a (by rw [List.length_append, ← S1.hp.len]; simp) e1
    rw [hD1] at q
    cases q
    exact e1
  -- the end
  have fin : ∀ {ρ' H'} {h' : Hep}, Step (ρ1 ++ [some D0]) (upd H1 D0 (.lst [])) ρ' H' → SimH X.K G H' ρ' h' → Wp (wd G X) W (RV (wd G X)) σ ρ1 H1 (lcEnd md h1 h') Q → Q (.ref D0) H' := fun {ρ' H' h'} st S' w => by
    unfold lcEnd at w
    have refl : ∀ {c}, h1.length < h'.length → Wp (wd G X) W (RV (wd G X)) σ ρ1 H1 (leave (h1 ++ [c]) (.ref h1.length) h') Q → SimH X.K G (upd H1 D0 (.lst [])) (ρ1 ++ [some D0]) (h1 ++ [c]) → Q (.ref D0) H' := fun {c} hl w Sc => by
      refine wp_leave (ρ0 := ρ1 ++ [some D0]) (H0 := upd H1 D0 (.lst [])) (Wp.step st0 w) Sc st S' ⟨by rw [S'.len]; exact hl, fun a e => ?_⟩
      have q := st.live h1.length a (by rw [List.length_append, ← S1.hp.len]; simp) e
      rw [hD1] at q
      cases q
      rfl
    cases md with
    | data =>
      simp only at w
      split at w
      · rename_i acc e
        have hD2 := stays st S' _ e (by simp)
        refine wp_leave (D := wd G X) w S1.hp ((st0.trans st).trans step_kill) (S'.kill h1.length) ?_
        exact S'.freeze hD2 e
      · exact w.elim
    | cell =>
      simp only at w
      split at w
      · rename_i hl
        exact refl hl w Sm
      · exact w.elim
    | refs =>
      simp only at w
      split at w
      · rename_i hl
        exact refl hl w Sm
      · exact w.elim
  refine ⟨fun i m H => ∃ ρ h, Step (ρ1 ++ [some D0]) (upd H1 D0 (.lst [])) ρ H ∧ SimH X.K G H ρ h ∧ Wp (wd G X) W (RV (wd G X)) σ ρ1 H1 ((lc2Go t mt t1 mi1 mt1 me vs1 h1.length s (wipeE env (own.map (·.2))) m i h).bind fun _ h2 => lcEnd md h1 h2) Q,
    ⟨f, ρ1 ++ [some D0], h1 ++ [md.init], .refl, Sm, w1⟩, ?_⟩
  rintro i m H2 ⟨ρ2, h2, st2, S2, w2⟩
  cases m with
  | zero => exact w2.elim
  | succ m =>
    have q := r1 i H2 ρ2 h2 (st0.trans st2) S2
    unfold lc2Go at w2
    split at w2
    · exact w2.elim
    · rename_i e
      exact .inl ⟨q.2 e, fin st2 S2 w2⟩
    · rename_i d e
      obtain ⟨go, hy⟩ := q.1 d e
      refine .inr ⟨go, fun H => ∃ ρ h, Step (ρ1 ++ [some D0]) (upd H1 D0 (.lst [])) ρ H ∧ SimH X.K G H ρ h ∧ Wp (wd G X) W (RV (wd G X)) σ ρ1 H1 ((lc2Go t mt t1 mi1 mt1 me vs1 h1.length s (wipeE env (own.map (·.2))) m (i + 1) h).bind fun _ h2 => lcEnd md h1 h2) Q,
        fun H' q => ⟨m, Nat.lt_succ_self _, q⟩, fun x H3 y3 => ?_⟩
      obtain ⟨st3, S3, r3⟩ := hy x H3 y3
      split at w2
      · exact w2.elim
      · rename_i env2 ea
        have E3 : EnvR X.K G H3 ρ2 (wipeE env (own.map (·.2))) (L2.wipe σ (own.map (·.2))) := (S1.env.step ((st0.trans st2).trans st3)).wipe _
        refine ⟨ρ2, wipeE env (own.map (·.2)), h2, d, env2, ⟨S3, E3⟩, r3, ea, fun σ' hs' S' => ⟨wipe_wipe hs' hown, ?_⟩⟩
        have st3' := st2.trans st3
        refine rX.imp (R := RB) (Q := fun b H4 => ∃ ρ4 h4, Step (ρ1 ++ [some D0]) (upd H1 D0 (.lst [])) ρ4 H4 ∧ Sim (wd G X) σ' H4 ρ4 env2 h4 ∧ Wp (wd G X) W (RV (wd G X)) σ ρ1 H1 ((if b = true then (mi1 env2 h4).noEr.bind fun s1 h5 => (steps .bad fun f1 => lcGo t1 mt1 me h1.length s1 (wipeE env2 vs1) f1 0 h5).bind fun _ h3 => lc2Go t mt t1 mi1 mt1 me vs1 h1.length s (wipeE env (own.map (·.2))) m (i + 1) h3 else lc2Go t mt t1 mi1 mt1 me vs1 h1.length s (wipeE env (own.map (·.2))) m (i + 1) h4).bind fun _ h2 => lcEnd md h1 h2) Q) ⟨ρ2, env2, h2, S', ?_⟩ fun b H4 hb => ?_
        · cases em : mt env2 h2 with
          | bad => rw [em] at w2; exact w2.elim
          | er e5 h5 => rw [em] at w2; exact w2.elim
          | ok b h5 =>
            rw [em] at w2
            intro ρ5 H5 b' st5 S5 rb
            cases rb
            exact ⟨ρ5, h5, st3'.trans st5, S'.step st5 S5, w2⟩
        · obtain ⟨ρ4, h4, st4, S4, w4⟩ := hb
          cases b with
          | false =>
            rw [if_neg Bool.false_ne_true] at w4 ⊢
            exact ⟨ρ4, h4, st4, S4.hp, w4⟩
          | true =>
            rw [if_pos rfl] at w4 ⊢
            -- the inner source
            refine ⟨ρ4, env2, h4, S4, ?_⟩
            cases ei : mi1 env2 h4 with
            | bad => rw [ei] at w4; exact w4.elim
            | er e5 h5 => rw [ei] at w4; exact w4.elim
            | ok s1 h5 =>
              rw [ei] at w4
              intro ρ5 H5 J1 st5 S5 rJ
              have w4 : Wp (wd G X) W (RV (wd G X)) σ ρ1 H1 (((steps .bad fun f1 => lcGo t1 mt1 me h1.length s1 (wipeE env2 vs1) f1 0 h5).bind fun _ h3 => lc2Go t mt t1 mi1 mt1 me vs1 h1.length s (wipeE env (own.map (·.2))) m (i + 1) h3).bind fun _ h2 => lcEnd md h1 h2) Q := w4
              have nb1 : steps .bad (fun f1 => lcGo t1 mt1 me h1.length s1 (wipeE env2 vs1) f1 0 h5) ≠ .bad := fun e => by
                rw [e] at w4
                exact w4
              obtain ⟨f1, hf1⟩ := steps_ok nb1
              rw [← hf1] at w4
              have st5' := st4.trans st5
              refine ⟨fun j k H => ∃ ρ h, Step ρ5 H5 ρ H ∧ SimH X.K G H ρ h ∧ Wp (wd G X) W (RV (wd G X)) σ ρ1 H1 (((lcGo t1 mt1 me h1.length s1 (wipeE env2 vs1) k j h).bind fun _ h3 => lc2Go t mt t1 mi1 mt1 me vs1 h1.length s (wipeE env (own.map (·.2))) m (i + 1) h3).bind fun _ h2 => lcEnd md h1 h2) Q, ⟨f1, ρ5, h5, .refl, S5, w4⟩, ?_⟩
              rintro j k H6 ⟨ρ6, h6, st6, S6, w6⟩
              cases k with
              | zero => exact w6.elim
              | succ k =>
                have q := rJ j H6 ρ6 h6 st6 S6
                unfold lcGo at w6
                split at w6
                · exact w6.elim
                · rename_i e
                  exact .inl ⟨q.2 e, ρ6, h6, st5'.trans st6, S6, w6⟩
                · rename_i d1 e
                  obtain ⟨go1, hy1⟩ := q.1 d1 e
                  refine .inr ⟨go1, fun H => ∃ ρ h, Step ρ5 H5 ρ H ∧ SimH X.K G H ρ h ∧ Wp (wd G X) W (RV (wd G X)) σ ρ1 H1 (((lcGo t1 mt1 me h1.length s1 (wipeE env2 vs1) k (j + 1) h).bind fun _ h3 => lc2Go t mt t1 mi1 mt1 me vs1 h1.length s (wipeE env (own.map (·.2))) m (i + 1) h3).bind fun _ h2 => lcEnd md h1 h2) Q,
                    fun H' q => ⟨k, Nat.lt_succ_self _, q⟩, fun x1 H7 y7 => ?_⟩
                  obtain ⟨st7, S7, r7⟩ := hy1 x1 H7 y7
                  split at w6
                  · exact w6.elim
                  · rename_i env3 ea1
                    have E7 : EnvR X.K G H7 ρ6 (wipeE env2 vs1) (L2.wipe σ' vs1) := (S4.env.step ((st5.trans st6).trans st7)).wipe _
                    refine ⟨ρ6, wipeE env2 vs1, h6, d1, env3, ⟨S7, E7⟩, r7, ea1, fun σ3 hs3 S8 => ⟨wipe_wipe hs3 hown1, ?_⟩⟩
                    have st7' := st6.trans st7
                    refine rX.imp (R := RB) (Q := fun b H8 => ∃ ρ8 h8, Step ρ5 H5 ρ8 H8 ∧ Sim (wd G X) σ3 H8 ρ8 env3 h8 ∧ Wp (wd G X) W (RV (wd G X)) σ ρ1 H1 (((if b = true then (me env3 h8).noEr.bind fun v h2 => (match putC h1.length v h2 with
                      | some h3 => lcGo t1 mt1 me h1.length s1 (wipeE env2 vs1) k (j + 1) h3
                      | none => .bad) else lcGo t1 mt1 me h1.length s1 (wipeE env2 vs1) k (j + 1) h8).bind fun _ h3 => lc2Go t mt t1 mi1 mt1 me vs1 h1.length s (wipeE env (own.map (·.2))) m (i + 1) h3).bind fun _ h2 => lcEnd md h1 h2) Q) ⟨ρ6, env3, h6, S8, ?_⟩ fun b H8 hb => ?_
                    · cases em : mt1 env3 h6 with
                      | bad => rw [em] at w6; exact w6.elim
                      | er e9 h9 => rw [em] at w6; exact w6.elim
                      | ok b h9 =>
                        rw [em] at w6
                        intro ρ9 H9 b' st9 S9 rb
                        cases rb
                        exact ⟨ρ9, h9, st7'.trans st9, S8.step st9 S9, w6⟩
                    · obtain ⟨ρ8, h8, st8, S8, w8⟩ := hb
                      cases b with
                      | false =>
                        rw [if_neg Bool.false_ne_true] at w8 ⊢
                        exact ⟨ρ8, h8, st8, S8.hp, w8⟩
                      | true =>
                        rw [if_pos rfl] at w8 ⊢
                        refine ⟨ρ8, env3, h8, S8, ?_⟩
                        cases em : me env3 h8 with
                        | bad => rw [em] at w8; exact w8.elim
                        | er e9 h9 => rw [em] at w8; exact w8.elim
                        | ok v h9 =>
                          rw [em] at w8
                          intro ρ9 H9 y st9 S9 ry
                          have w8 : Wp (wd G X) W (RV (wd G X)) σ ρ1 H1 ((Out.bind (match putC h1.length v h9 with
                            | some h3 => lcGo t1 mt1 me h1.length s1 (wipeE env2 vs1) k (j + 1) h3
                            | none => .bad : Out Unit) fun _ h3 => lc2Go t mt t1 mi1 mt1 me vs1 h1.length s (wipeE env (own.map (·.2))) m (i + 1) h3).bind fun _ h2 => lcEnd md h1 h2) Q := w8
                          split at w8
                          · rename_i h10 e10
                            have live : ∃ c, h9[h1.length]? = some c ∧ c ≠ .dead := by
                              unfold putC at e10
                              split at e10
                              · rename_i q; exact ⟨_, q, by simp⟩
                              · rename_i q; exact ⟨_, q, by simp⟩
                              · cases e10
                            obtain ⟨c, hc5, nd⟩ := live
                            have hD5 := stays ((st5'.trans st8).trans st9) S9 c hc5 nd
                            obtain ⟨acc, a1, a2, a3, a4⟩ := putC_ok S9 hD5 ry e10
                            exact ⟨acc, a1, a2, ρ9, h10, (st8.trans st9).trans a3, a4, w8⟩
                          · exact w8.elim

theorem e_lc2 (md : Mode) {vs vs1 : List Nat} (hc : X.calm = true) (hN : X.N.Nodup) (hi : JI G W X tg iter mi) (ok : BlkOk X.N X.env.scope scope own) (hv : ∀ i ∈ vs1, i ∈ own.map (·.2)) (hown : ∀ i ∈ t.ixs, i ∈ own.map (·.2)) (hown1 : ∀ i ∈ t1.ixs, i ∈ vs1)
    (hg : ∀ (s : Shared) (H : Hp) (C : Addr) (cl : List (Str × Addr)) (fp : List Addr), JG G (X.blk s H scope (compEnvC scope cl C X.env) fp) tg t)
    (ht : ∀ (s : Shared) (H : Hp) (C : Addr) (cl : List (Str × Addr)) (fp : List Addr), JTs G W0 (X.blk s H scope (compEnvC scope cl C X.env) fp) ifs mt)
    (hi1 : ∀ (s : Shared) (H : Hp) (C : Addr) (cl : List (Str × Addr)) (fp : List Addr), JI G W0 (X.blk s H scope (compEnvC scope cl C X.env) fp) tg1 iter1 mi1)
    (hg1 : ∀ (s : Shared) (H : Hp) (C : Addr) (cl : List (Str × Addr)) (fp : List Addr), JG G (X.blk s H scope (compEnvC scope cl C X.env) fp) tg1 t1)
    (ht1 : ∀ (s : Shared) (H : Hp) (C : Addr) (cl : List (Str × Addr)) (fp : List Addr), JTs G W0 (X.blk s H scope (compEnvC scope cl C X.env) fp) ifs1 mt1)
    (he : ∀ (s : Shared) (H : Hp) (C : Addr) (cl : List (Str × Addr)) (fp : List Addr), JE G W0 (X.blk s H scope (compEnvC scope cl C X.env) fp) elt me) (hvs : own.map (·.2) = vs := by rfl) (hs : ∀ x, foldedSetIterable iter X.env x = pure x := by intro _; rfl) (hs1 : ∀ env x, foldedSetIterable iter1 env x = pure x := by intro _ _; rfl) :
    JE G W X (.ListComp elt [⟨tg, iter, ifs, 0⟩, ⟨tg1, iter1, ifs1, 0⟩] scope pos) (mLc2 md t mi mt t1 mi1 mt1 me vs vs1) := by
  subst hvs
  exact PE.to (pe_lc2 (g := rG (wd G X) t) (tt := rT (wd G X) W0 mt) (wi1 := rX (wd G X) W0 (RIt (wd G X)) mi1) (g1 := rG (wd G X) t1) (tt1 := rT (wd G X) W0 mt1) (te := rE (wd G X) W0 me) hc hN hi ok hv hg ht hi1 hg1 ht1 he hs hs1) fun σ H Q r => lc2_reads md hown hown1 r
/-- name = [.. for .. for ..], the name a local -/
theorem s_setLc2 (md : Mode) {vs vs1 : List Nat} {i : Nat} {y : Str} {py spos : Pos} (hc : X.calm = true) (hN : X.N.Nodup) (hy : X.N[i]? = some y) (hyl : X.env.scope.names.lookup y = some .local) (hi : JI G W X tg iter mi) (ok : BlkOk X.N X.env.scope scope own) (hv : ∀ i ∈ vs1, i ∈ own.map (·.2)) (hown : ∀ i ∈ t.ixs, i ∈ own.map (·.2)) (hown1 : ∀ i ∈ t1.ixs, i ∈ vs1)
    (hg : ∀ (s : Shared) (H : Hp) (C : Addr) (cl : List (Str × Addr)) (fp : List Addr), JG G (X.blk s H scope (compEnvC scope cl C X.env) fp) tg t)
    (ht : ∀ (s : Shared) (H : Hp) (C : Addr) (cl : List (Str × Addr)) (fp : List Addr), JTs G W0 (X.blk s H scope (compEnvC scope cl C X.env) fp) ifs mt)
    (hi1 : ∀ (s : Shared) (H : Hp) (C : Addr) (cl : List (Str × Addr)) (fp : List Addr), JI G W0 (X.blk s H scope (compEnvC scope cl C X.env) fp) tg1 iter1 mi1)
    (hg1 : ∀ (s : Shared) (H : Hp) (C : Addr) (cl : List (Str × Addr)) (fp : List Addr), JG G (X.blk s H scope (compEnvC scope cl C X.env) fp) tg1 t1)
    (ht1 : ∀ (s : Shared) (H : Hp) (C : Addr) (cl : List (Str × Addr)) (fp : List Addr), JTs G W0 (X.blk s H scope (compEnvC scope cl C X.env) fp) ifs1 mt1)
    (he : ∀ (s : Shared) (H : Hp) (C : Addr) (cl : List (Str × Addr)) (fp : List Addr), JE G W0 (X.blk s H scope (compEnvC scope cl C X.env) fp) elt me) (hvs : own.map (·.2) = vs := by rfl) (hs : ∀ x, foldedSetIterable iter X.env x = pure x := by intro _; rfl) (hs1 : ∀ env x, foldedSetIterable iter1 env x = pure x := by intro _ _; rfl)
    (hsw : swapsWith (.ListComp elt [⟨tg, iter, ifs, 0⟩, ⟨tg1, iter1, ifs1, 0⟩] scope pos) (some (.Name y py)) spos.line X.env = pure true := by rfl) :
    JS G W X (.Assign [.Name y py] (.ListComp elt [⟨tg, iter, ifs, 0⟩, ⟨tg1, iter1, ifs1, 0⟩] scope pos) spos) (mSet i (mLc2 md t mi mt t1 mi1 mt1 me vs vs1)) := by
  subst hvs
  refine PS.to (ps_setLc2 (g := rG (wd G X) t) (tt := rT (wd G X) W0 mt) (wi1 := rX (wd G X) W0 (RIt (wd G X)) mi1) (g1 := rG (wd G X) t1) (tt1 := rT (wd G X) W0 mt1) (te := rE (wd G X) W0 me) hc hN hy hyl hsw hi ok hv hg ht hi1 hg1 ht1 he hs hs1) fun E σ H r => ?_
  refine lc2_reads (W := W) md hown hown1 (rS.seq (R := RV (wd G X)) (f := fun v env h1 => .nx (env.set i (some v)) h1) r fun v x ρ1 H1 env h1 S1 r1 w1 => ?_)
  exact w1.nx (S1.set i r1)
end
end Vi
end Vi18_

section Vi19_
set_option linter.all false
set_option maxRecDepth 100000
/-! # Vi19: slots that nothing reads any more are forgotten -/
namespace Vi
open PySem PySem.Spec PyProof.Rows L2
/-- the slots vs are forgotten -/
def SOut.wipe (vs : List Nat) : SOut → SOut
  | .nx env h => .nx (wipeE env vs) h
  | .bk env h => .bk (wipeE env vs) h
  | .ct env h => .ct (wipeE env vs) h
  | o => o
def mDead (vs : List Nat) (m : MS) : MS := fun env h => (m env h).wipe vs
theorem wipeE_len (env : Env) : ∀ vs, (wipeE env vs).length = env.length
  | [] => rfl
  | v :: vs => by
    show ((wipeE env vs).set v none).length = _
    rw [List.length_set, wipeE_len env vs]
theorem wipeE_at {env : Env} {i : Nat} {d : Val} : ∀ vs, (wipeE env vs)[i]? = some (some d) → env[i]? = some (some d)
  | [], e => e
  | v :: vs, e => by
    rw [show wipeE env (v :: vs) = (wipeE env vs).set v none from rfl] at e
    by_cases q : v = i
    · subst q
      by_cases l : v < (wipeE env vs).length
      · rw [List.getElem?_set_self l] at e
        cases e
      · rw [List.getElem?_eq_none (by simpa using l)] at e
        cases e
    · rw [List.getElem?_set_ne q] at e
      exact wipeE_at vs e
theorem Sim.wiped {D : Wd} {σ : L2.St} {H : Hp} {ρ : Rho} {env : Env} {h : Hep} (vs : List Nat) (S : Sim D σ H ρ env h) : Sim D σ H ρ (wipeE env vs) h := by
  obtain ⟨a, b⟩ := S
  exact ⟨a, ⟨(wipeE_len env vs).trans b.len, fun i d e => b.at_ i d (wipeE_at vs e)⟩⟩
theorem Ws.unwipe {D : Wd} {W : WX} {E : Ends} {ρ : Rho} {H : Hp} {o : SOut} {vs : List Nat} (w : Ws D W E ρ H (o.wipe vs)) : Ws D W E ρ H o := by
  cases o with
  | bad => exact w
  | nx env h => exact fun ρ' H' σ' s S => w ρ' H' σ' s (S.wiped vs)
  | bk env h => exact fun ρ' H' σ' s S => w ρ' H' σ' s (S.wiped vs)
  | ct env h => exact fun ρ' H' σ' s S => w ρ' H' σ' s (S.wiped vs)
  | rt v h => exact w
  | er e env h => exact w
section
variable {G : Gh} {W : WX} {X : Cx} {st : Stmt} {sts : List Stmt} {m : MS}
theorem s_dead (vs : List Nat) (h : JS G W X st m) : JS G W X st (mDead vs m) := PS.to h fun E σ H r => by
  obtain ⟨ρ, env, h, S, w⟩ := r
  exact ⟨ρ, env, h, S, Ws.unwipe (vs := vs) w⟩
theorem ss_dead (vs : List Nat) (h : JSs G W X sts m) : JSs G W X sts (mDead vs m) := PSs.to h fun E σ H r => by
  obtain ⟨ρ, env, h, S, w⟩ := r
  exact ⟨ρ, env, h, S, Ws.unwipe (vs := vs) w⟩
end
end Vi
end Vi19_

section Vi20_
set_option linter.all false
set_option maxRecDepth 100000
/-! # Vi20: a, b = x, y for any names; [x] * n that stays a cell -/
namespace Vi
open PySem PySem.Spec PyProof.Rows L2
/-- the values go to the names, one behind another -/
def kParN : List Nat → List Val → Env → Hep → SOut
  | [], [], env, h => .nx env h
  | i :: is, v :: vs, env, h => kParN is vs (env.set i (some v)) h
  | _, _, _, _ => .bad
def mParN (is : List Nat) (m : Env → Hep → Out (List Val)) : MS := fun env h => (m env h).st env fun vs h1 => kParN is vs env h1
def setN : List Nat → List Val → Env → Env
  | i :: is, v :: vs, env => setN is vs (env.set i (some v))
  | _, _, env => env
def rGv (D : Wd) (is : List Nat) : TGs := fun us σ H Q => ∃ ρ env h vs, Sim D σ H ρ env h ∧ RVs D H ρ vs us ∧ vs.length = is.length ∧ ∀ σ', SetsIn is σ σ' → Sim D σ' H ρ (setN is vs env) h → Q σ' H
def JGv (G : Gh) (X : Cx) (es : List Expr) (is : List Nat) : Prop := PGs X es (rGv (wd G X) is)
theorem kParN_ok : ∀ {is : List Nat} {vs : List Val} {env : Env} {h : Hep}, kParN is vs env h ≠ .bad → vs.length = is.length ∧ kParN is vs env h = .nx (setN is vs env) h
  | [], [], env, h, _ => ⟨rfl, rfl⟩
  | [], _ :: _, env, h, n => absurd rfl n
  | _ :: _, [], env, h, n => absurd rfl n
  | i :: is, v :: vs, env, h, n => by
    have q := kParN_ok (is := is) (vs := vs) (env := env.set i (some v)) (h := h) n
    exact ⟨by simp [q.1], q.2⟩
section
variable {G : Gh} {W : WX} {X : Cx} {e a b : Expr} {es xs : List Expr} {pos pt p : Pos} {is : List Nat} {mp : Env → Hep → Out (List Val)} {ma mb : ME}
theorem gv_nil : JGv G X [] [] := by
  refine PGs.to pgs_nil fun us σ H Q r => ?_
  obtain ⟨ρ, env, h, vs, S, r1, hl, q⟩ := r
  have : vs = [] := List.length_eq_zero_iff.mp hl
  subst this
  cases r1
  exact ⟨rfl, q σ .refl S⟩
theorem gv_cons {i : Nat} {x : Str} (hN : X.N.Nodup) (hi : X.N[i]? = some x) (hx : Loc X.env.scope x) (h2 : JGv G X es is) (hf : X.fn x = true ∨ X.env.scope.names.lookup x = some .local := by first | exact .inl rfl | exact .inr rfl | assumption)
    (hs : (assignEach (.Name x pos :: es) X.env).map (·.2) = assign (.Name x pos) X.env :: (assignEach es X.env).map (·.2) := by rfl) : JGv G X (.Name x pos :: es) (i :: is) := by
  refine PGs.to (pgs_cons (pg_name hN hi hx hf) h2 hs) fun us σ H Q r => ?_
  obtain ⟨ρ, env, h, vs, S, r1, hl, q⟩ := r
  cases r1 with
  | nil => cases hl
  | cons r1 r2 => exact ⟨_, _, rfl, ρ, _, h, _, S.set i r1, r2, by simpa using hl, fun σ2 hs2 S2 => q σ2 (setsIn_set.trans hs2) S2⟩
theorem s_parT {k k2 : Nat} {pt2 : Pos} (hc : X.calm = true) (hg : JGv G X xs is) (ha : JA G W X es mp) (hz : is.length ≤ 100 := by decide) (hxl : xs.length = is.length := by rfl)
    (hs : swapsWithSole [.Tuple xs k pt] (.Tuple es k2 pt2) pos.line X.env = pure false := by rfl) (hw : swappedStores [.Tuple xs k pt] (.Tuple es k2 pt2) X.env = pure none := by rfl)
    (h1 : (assignEach [.Tuple xs k pt] X.env).map (·.2) = [assign (.Tuple xs k pt) X.env] := by rfl)
    (hn : (assignEach xs X.env).length = is.length := by rfl) (hst : (assignEach xs X.env).findIdx? (·.1) = none := by rfl) : JS G W X (.Assign [.Tuple xs k pt] (.Tuple es k2 pt2) pos) (mParN is mp) := by
  refine PS.to (ps_asg (pe_tupZ ha) (pg_tup hc hg hn hst) hs hw h1) fun E σ H r => ?_
  refine rS.seq (R := RVs (wd G X)) (f := fun vs env h1 => kParN is vs env h1) r fun vs us ρ1 H1 env h1 S1 r1 w1 => ?_
  have nb : kParN is vs env h1 ≠ .bad := fun z => by rw [z] at w1; exact w1
  obtain ⟨hl, eq⟩ := kParN_ok nb
  rw [eq] at w1
  have hul : us.length = is.length := by rw [← Paired.len r1]; exact hl
  refine ⟨by rw [hul, show sizeLine = 16777216 from rfl]; omega, fun p o hp ho => ?_⟩
  have st := S1.hp.stepNew (o := .frz o (.tup us)) hp
  exact ⟨p, us, rfl, .inl (.inr ⟨o, upd_same⟩), hul, ρ1, env, h1, vs, S1.step st (S1.hp.new hp), RVs.step st r1, hl, fun σ' _ S' => (Ws.step st w1).nx S'⟩
end
/-- [x] * n: a new list that stays a cell -/
structure MulS (xs : List PyData) (k : Int) : Prop where
  lo : -(2 ^ 63) ≤ k
  hi : k < 2 ^ 63
  sz : xs.length * k.toNat ≤ sizeLine
noncomputable def dMulC : F2 := fun a b h => match a, b with
  | .dat (.list xs), .dat (.int k) => @ite _ (MulS xs k) (Classical.propDecidable _) (.ok (.ref h.length) (h ++ [.lst (List.replicate k.toNat xs).flatten])) .bad
  | _, _ => .bad
theorem q_dMulC : Quiet2 dMulC := by
  intro a b h e h' z
  unfold dMulC at z
  repeat (first | (split at z) | cases z)
section
variable {G : Gh} {W : WX} {X : Cx}
theorem o_mulC : OpD G X (binaryOp .Mult) dMulC := by
  intro pins s σ H x y v u Q I rx ry q
  obtain ⟨σ', ρ, h, a, b, S, ra, rb, w⟩ := q
  unfold dMulC at w
  split at w
  · split at w
    · rename_i hz
      obtain ⟨l, vs, rfl, hl, r1⟩ := ra
      have e2 : y = .int _ := rb
      exact op_rep pins s σ H _ y v u Q I rx ry ⟨l, _, vs, rfl, e2, hl.1, hz.lo, hz.hi, by rw [r1.len]; exact hz.sz, fun p hp => Wp.newC w S (reps_rep r1 _) hp⟩
    · exact w.elim
  · exact w.elim
end
section
variable {G : Gh} {W : WX} {X : Cx} {a b c : Expr} {pos : Pos}
theorem s_par3 {i j l : Nat} {x y z : Str} {mp : Env → Hep → Out (List Val)} {px py pz pt : Pos} {kt k2 pt2} (hc : X.calm = true) (hN : X.N.Nodup) (hi : X.N[i]? = some x) (hj : X.N[j]? = some y) (hl : X.N[l]? = some z) (hij : i ≠ j) (hil : i ≠ l) (hjl : j ≠ l)
    (hx : X.env.scope.names.lookup x = some .local) (hy : X.env.scope.names.lookup y = some .local) (hz : X.env.scope.names.lookup z = some .local) (ha : JA G W X [a, b, c] mp)
    (hw : swappedStores [.Tuple [.Name x px, .Name y py, .Name z pz] kt pt] (.Tuple [a, b, c] k2 pt2) X.env = pure (some [x, y, z]) := by rfl)
    (hs : swapsWithSole [.Tuple [.Name x px, .Name y py, .Name z pz] kt pt] (.Tuple [a, b, c] k2 pt2) pos.line X.env = pure false := by rfl) :
    JS G W X (.Assign [.Tuple [.Name x px, .Name y py, .Name z pz] kt pt] (.Tuple [a, b, c] k2 pt2) pos) (mParN [i, j, l] mp) := by
  refine PS.to (ps_par3 hc hN hi hj hl hij hil hjl hx hy hz ha hw hs) fun E σ H r => ?_
  refine rS.seq (R := RVs (wd G X)) (f := fun vs env h1 => kParN [i, j, l] vs env h1) r fun vs us ρ1 H1 env h1 S1 r1 w1 => ?_
  have nb : kParN [i, j, l] vs env h1 ≠ .bad := fun z => by rw [z] at w1; exact w1
  obtain ⟨hlen, eq⟩ := kParN_ok nb
  rw [eq] at w1
  cases r1 with
  | nil => cases hlen
  | cons r1 r2 => cases r2 with
    | nil => cases hlen
    | cons r2 r3 => cases r3 with
      | nil => cases hlen
      | cons r3 r4 => cases r4 with
        | nil => exact ⟨_, _, _, rfl, w1.nx (((S1.set i r1).set j r2).set l r3)⟩
        | cons r4 r5 => cases hlen
end
end Vi
end Vi20_

section Vi21_
set_option linter.all false
set_option maxRecDepth 100000
/-! # Vi21: list + list that stays a cell -/
namespace Vi
open PySem PySem.Spec PyProof.Rows L2
def dAddC : F2 := fun a b h => match toTrk h a, toTrk h b with
  | some xs, some ys => if xs.length + ys.length ≤ sizeLine then .ok (.ref h.length) (h ++ [.lst (xs ++ ys)]) else .bad
  | _, _ => .bad
theorem q_dAddC : Quiet2 dAddC := by
  intro a b h e h' z
  unfold dAddC at z
  repeat (first | (split at z) | cases z)
section
variable {G : Gh} {W : WX} {X : Cx}
theorem o_addC : OpD G X (binaryOp .Add) dAddC := by
  intro pins s σ H x y v u Q I rx ry q
  obtain ⟨σ', ρ, h, a, b, S, ra, rb, w⟩ := q
  unfold dAddC at w
  split at w
  · rename_i xs ys ea eb
    split at w
    · rename_i hz
      obtain ⟨l, vs, rfl, hl, r1⟩ := trk_at S ra ea
      obtain ⟨l2, us, rfl, hl2, r2⟩ := trk_at S rb eb
      exact op_cat pins s σ H _ _ v u Q I rx ry ⟨l, l2, vs, us, rfl, rfl, hl, hl2, by rw [r1.len, r2.len]; exact hz, fun p hp => Wp.newC w S (r1.append r2) hp⟩
    · exact w.elim
  · exact w.elim
end
end Vi
end Vi21_

section Vi30_

end Vi30_

section Vp0_
set_option linter.all false
set_option maxRecDepth 100000
/-! # Vp0: plain facts of mirrors -/
namespace Vi
open PySem PySem.Spec PyProof.Rows L2

/-! ### the combinators, applied -/
section
variable {env : Env} {h : Hep} {a b : MS} {m m2 m3 : ME} {t u : Env → Hep → Out Bool} {r : Env → Hep → Out (List Val)}
@[simp] theorem andThen_nx {f : MS} : (SOut.nx env h).andThen f = f env h := (rfl)
@[simp] theorem andThen_rt {v : Val} {f : MS} : (SOut.rt v h).andThen f = .rt v h := (rfl)
@[simp] theorem andThen_bk {f : MS} : (SOut.bk env h).andThen f = .bk env h := (rfl)
@[simp] theorem andThen_ct {f : MS} : (SOut.ct env h).andThen f = .ct env h := (rfl)
@[simp] theorem andThen_er {e : Err} {f : MS} : (SOut.er e env h).andThen f = .er e env h := (rfl)
@[simp] theorem andThen_bad {f : MS} : SOut.bad.andThen f = .bad := (rfl)
@[simp] theorem turn_nx {f : MS} : (SOut.nx env h).turn f = f env h := (rfl)
@[simp] theorem turn_ct {f : MS} : (SOut.ct env h).turn f = f env h := (rfl)
@[simp] theorem turn_bk {f : MS} : (SOut.bk env h).turn f = .nx env h := (rfl)
@[simp] theorem turn_rt {v : Val} {f : MS} : (SOut.rt v h).turn f = .rt v h := (rfl)
@[simp] theorem turn_er {e : Err} {f : MS} : (SOut.er e env h).turn f = .er e env h := (rfl)
@[simp] theorem turn_bad {f : MS} : SOut.bad.turn f = .bad := (rfl)
@[simp] theorem x_seq : mSeq a b env h = (a env h).andThen b := (rfl)
@[simp] theorem x_next : mNext env h = .nx env h := (rfl)
@[simp] theorem x_brk : mBrk env h = .bk env h := (rfl)
@[simp] theorem x_cnt : mCnt env h = .ct env h := (rfl)
@[simp] theorem x_ret : mRet m env h = (m env h).st env fun v h1 => .rt v h1 := (rfl)
@[simp] theorem x_retN : mRetN env h = .rt (.dat .none) h := (rfl)
@[simp] theorem x_drop : mDrop m env h = (m env h).st env fun _ h1 => .nx env h1 := (rfl)
@[simp] theorem x_ifS : mIfS t a b env h = (t env h).st env fun k h1 => if k = true then a env h1 else b env h1 := (rfl)
@[simp] theorem x_set {i : Nat} : mSet i m env h = (m env h).st env fun v h1 => .nx (env.set i (some v)) h1 := (rfl)
@[simp] theorem x_asg {tg : Tgt} : mAsg tg m env h = (m env h).st env fun v h1 => kAsg tg v env h1 := (rfl)
@[simp] theorem x_par {i j : Nat} : mPar i j r env h = (r env h).st env fun vs h1 => kPar i j vs env h1 := (rfl)
@[simp] theorem x_kPar {i j : Nat} {v w : Val} : kPar i j [v, w] env h = .nx ((env.set i (some v)).set j (some w)) h := (rfl)
@[simp] theorem x_raise {x : Str} : mRaise x env h = .er ⟨x, none⟩ env h := (rfl)
@[simp] theorem x_C {d : PyData} : mC d env h = .ok (.dat d) h := (rfl)
@[simp] theorem x_bin {f : F2} : mBin f m m2 env h = (m env h).bind fun x h1 => (m2 env h1).bind fun y h2 => f x y h2 := (rfl)
@[simp] theorem x_test : mTest m env h = (m env h).bind kTest := (rfl)
@[simp] theorem x_kTest {k : Bool} : kTest (.dat (.bool k)) h = .ok k h := (rfl)
@[simp] theorem x_tAnd : mtAnd t u env h = (t env h).bind fun c h1 => if c = true then u env h1 else .ok false h1 := (rfl)
@[simp] theorem x_tOr : mtOr t u env h = (t env h).bind fun c h1 => if c = true then .ok true h1 else u env h1 := (rfl)
@[simp] theorem x_tNot : mtNot t env h = (t env h).bind fun c h1 => .ok (!c) h1 := (rfl)
@[simp] theorem x_and : mAnd m m2 env h = (m env h).bind fun v h1 => kAnd m2 v env h1 := (rfl)
@[simp] theorem x_kAnd {c : Bool} : kAnd m2 (.dat (.bool c)) env h = if c = true then m2 env h else .ok (.dat (.bool false)) h := (rfl)
@[simp] theorem x_or : mOr m m2 env h = (m env h).bind fun v h1 => kOr m2 v env h1 := (rfl)
@[simp] theorem x_kOr {c : Bool} : kOr m2 (.dat (.bool c)) env h = if c = true then .ok (.dat (.bool true)) h else m2 env h := (rfl)
@[simp] theorem x_not : mNot m env h = (m env h).bind kNot := (rfl)
@[simp] theorem x_kNot {c : Bool} : kNot (.dat (.bool c)) h = .ok (.dat (.bool (!c))) h := (rfl)
@[simp] theorem x_if : mIf t m m2 env h = (t env h).bind fun c h1 => if c = true then m env h1 else m2 env h1 := (rfl)
@[simp] theorem x_chain {f g : F2} : mChain f g m m2 m3 env h = (m env h).bind fun x h1 => (m2 env h1).bind fun y h2 => (f x y h2).bind fun v h3 => kChain g m3 y v env h3 := (rfl)
@[simp] theorem x_kChain {g : F2} {y : Val} {c : Bool} : kChain g m3 y (.dat (.bool c)) env h = if c = true then (m3 env h).bind fun z h4 => g y z h4 else .ok (.dat (.bool false)) h := (rfl)
@[simp] theorem x_neg : mNeg m env h = (m env h).bind kNeg := (rfl)
@[simp] theorem x_kNeg {i : Int} : kNeg (.dat (.int i)) h = .ok (.dat (.int (-i))) h := (rfl)
@[simp] theorem x_nil : mNil env h = .ok [] h := (rfl)
@[simp] theorem x_cons : mCons m r env h = (m env h).bind fun x h1 => (r env h1).bind fun xs h2 => .ok (x :: xs) h2 := (rfl)
@[simp] theorem x_tup : mTup r env h = (r env h).bind kTup := (rfl)
@[simp] theorem x_lst : mLst r env h = (r env h).bind kLst := (rfl)
@[simp] theorem x_cel : mCel r env h = (r env h).bind kCel := (rfl)
@[simp] theorem x_frz : mFrz m env h = (m env h).bind kFrz := (rfl)
@[simp] theorem x_noPart : mNoPart env h = .ok none h := (rfl)
@[simp] theorem x_sl {lo hi : Env → Hep → Out (Option Int)} : mSl m lo hi env h = (m env h).bind fun v h1 => (lo env h1).bind fun l h2 => (hi env h2).bind fun u h3 => kSl v l u h3 := (rfl)
@[simp] theorem x_call {f : FL} : mCall f r env h = (r env h).bind f := (rfl)
@[simp] theorem x_isi {Cs : List String} : mIsi Cs m env h = (m env h).bind (kIsi Cs) := (rfl)
@[simp] theorem x_it : mIt m env h = (m env h).bind kIt := (rfl)
@[simp] theorem x_ita {k : List Val → Hep → Out Src} : mIta k r env h = (r env h).bind k := (rfl)
@[simp] theorem x_app {np : Nat} {mf : FL} : mApp np mf r env h = (r env h).bind fun as h1 => if as.length = np then mf as h1 else .bad := (rfl)
@[simp] theorem x_rev : mRev m env h = (m env h).bind kRev := (rfl)
@[simp] theorem x_isE {kn : Str → Str → Option Bool} {y : Str} : mIsE kn y m env h = (m env h).bind (kIsE kn y) := (rfl)
@[simp] theorem x_yes : mYes env h = .ok true h := (rfl)
theorem x_var {i : Nat} {v : Val} (e : env[i]? = some (some v)) : mVar i env h = .ok v h := by
  unfold mVar
  rw [e]
@[simp] theorem x_var0 {v : Val} {r : Env} : mVar 0 (some v :: r) h = .ok v h := (rfl)
@[simp] theorem x_varS {i : Nat} {o : Option Val} {r : Env} : mVar (i + 1) (o :: r) h = mVar i r h := by
  unfold mVar
  rw [List.getElem?_cons_succ]
@[simp] theorem bind_ok {α β : Type} {x : α} {f : α → Hep → Out β} : (Out.ok x h).bind f = f x h := (rfl)
@[simp] theorem bind_er {α β : Type} {e : Err} {f : α → Hep → Out β} : (Out.er e h : Out α).bind f = .er e h := (rfl)
@[simp] theorem bind_bad {α β : Type} {f : α → Hep → Out β} : (Out.bad : Out α).bind f = .bad := (rfl)
@[simp] theorem x_dats0 : dats [] = some [] := (rfl)
@[simp] theorem x_datsS {d : PyData} {r : List Val} : dats (.dat d :: r) = (dats r).map (d :: ·) := (rfl)
@[simp] theorem x_ok {d : PyData} : ok d h = .ok (.dat d) h := (rfl)
@[simp] theorem x_part {i : Int} {g : Hep} (e : m env h = .ok (.dat (.int i)) g) : mPart m env h = .ok (some i) g := by
  unfold mPart
  rw [e]
  rfl
end

/-! ### the ends of defs -/
theorem take_len (h cs : Hep) : (h ++ cs).take h.length = h := by simp
theorem trim_self (h : Hep) : trim h h = h := by
  unfold trim
  split
  · exact List.take_length
  · rfl
theorem trim_app (h cs : Hep) : trim h (h ++ cs) = h := by
  unfold trim
  rw [if_pos ⟨by simp, .inl (take_len h cs)⟩]
  exact take_len h cs
@[simp] theorem leave_self (h : Hep) (v : Val) : leave h v h = .ok v h := by
  unfold leave
  rw [trim_self]
  split <;> rfl
@[simp] theorem leave_dat (h cs : Hep) (d : PyData) : leave h (.dat d) (h ++ cs) = .ok (.dat d) h := by
  unfold leave
  rw [if_pos (show (Val.dat d).closed h.length from trivial), trim_app]
/-- all cells are lists of data, or dead -/
def Flat (h : Hep) : Prop := ∀ c ∈ h, c.closed 0
theorem closed_mono {c : Cell} {n : Nat} (h : c.closed 0) : c.closed n := by
  cases c with
  | refs ns => intro m hm; exact absurd (h m hm) (Nat.not_lt_zero m)
  | lst xs => trivial
  | dead => trivial
theorem trim_flat {h0 h cs : Hep} (hl : h.length = h0.length) (f : Flat h) : trim h0 (h ++ cs) = h := by
  have sh : Shut h0 (h ++ cs) := .inr fun c hc => by
    rw [← hl, take_len] at hc
    exact closed_mono (f c hc)
  unfold trim
  rw [if_pos ⟨by simp [hl], sh⟩, ← hl]
  exact take_len h cs
theorem leave_flat {h0 h cs : Hep} {d : PyData} (hl : h.length = h0.length) (f : Flat h) : leave h0 (.dat d) (h ++ cs) = .ok (.dat d) h := by
  unfold leave
  rw [if_pos (show (Val.dat d).closed h0.length from trivial), trim_flat hl f]
/-! ### loops over what stands still -/
theorem steps_all {α : Type} {bad r : α} {go : Nat → α} (h : ∀ f, go f = bad ∨ go f = r) (ex : ∃ f, go f = r) : steps bad go = r := by
  unfold steps
  split
  · rename_i q
    exact (h _).resolve_left (Classical.choose_spec q)
  · rename_i q
    obtain ⟨f, e⟩ := ex
    rw [← e]
    apply Classical.byContradiction
    intro z
    exact q ⟨f, fun w => z w.symm⟩
/-- the source gives out xs, whatever happens -/
def SrcIs (s : Src) (xs : List PyData) : Prop := ∀ i h, s.itm i h = nxt (xs.map Val.dat) i
theorem src_list (xs : List PyData) : SrcIs (.of (.dat (.list xs))) xs := fun _ _ => rfl
theorem src_tup (xs : List PyData) : SrcIs (.of (.dat (.tuple xs))) xs := fun _ _ => rfl
theorem src_str (x : Str) : SrcIs (.of (.dat (.str x))) (charsD x) := fun _ _ => rfl
theorem src_scr (ns : List Int) : SrcIs (.of (.scr ns)) (ns.map .int) := fun _ _ => rfl
theorem nxt_at {α : Type} {l : List α} {i : Nat} (h : i < l.length) : nxt l i = some (some l[i]) := by
  unfold nxt
  rw [List.getElem?_eq_getElem h]
theorem nxt_len {α : Type} {l : List α} : nxt l l.length = some none := by
  unfold nxt
  rw [List.getElem?_eq_none (Nat.le_refl _)]
  simp
theorem nxt_out {α : Type} {l : List α} {i : Nat} (h : l.length < i) : nxt l i = none := by
  unfold nxt
  rw [List.getElem?_eq_none (by omega)]
  simp
  omega
theorem src_rng (lo c : Int) (n : Nat) : SrcIs (.rng lo c n) ((List.range n).map fun (i : Nat) => .int (lo + (i : Int) * c)) := fun i h => by
  simp only [Src.itm]
  rw [List.map_map]
  by_cases hi : i < n
  · rw [if_pos hi, nxt_at (by simpa using hi)]
    simp
  · rw [if_neg hi]
    by_cases e : i = n
    · rw [if_pos e]
      have : i = ((List.range n).map (Val.dat ∘ fun (i : Nat) => PyData.int (lo + (i : Int) * c))).length := by simp [e]
      rw [this, nxt_len]
    · rw [if_neg e, nxt_out (by simp; omega)]
def enumD (k0 : Int) (xs : List PyData) : List PyData := xs.zipIdx.map fun p => .tuple [.int (k0 + (p.2 : Nat)), p.1]
theorem src_enum {v : Val} {xs : List PyData} {k0 : Int} (hv : ∀ h, itmsD h v = some xs) : SrcIs (.enum v k0) (enumD k0 xs) := fun i h => by
  simp only [Src.itm, hv]
  unfold nxt enumD
  simp only [List.getElem?_map, List.getElem?_zipIdx, List.length_map, List.length_zipIdx]
  cases q : xs[i]? with
  | some d => simp
  | none =>
    simp only [Option.map_none]
    split <;> rfl
def zipD (xs ys : List PyData) : List PyData := (xs.zip ys).map fun p => .tuple [p.1, p.2]
theorem src_zip {v w : Val} {xs ys : List PyData} (hv : ∀ h, itmsD h v = some xs) (hw : ∀ h, itmsD h w = some ys) : SrcIs (.zip v w) (zipD xs ys) := fun i h => by
  simp only [Src.itm, hv, hw]
  unfold nxt zipD
  simp only [List.getElem?_map, List.getElem?_zip_eq_some, List.length_map, List.length_zip]
  by_cases h1 : i < xs.length
  · by_cases h2 : i < ys.length
    · rw [List.getElem?_eq_getElem h1, List.getElem?_eq_getElem h2]
      have : (xs.zip ys)[i]? = some (xs[i], ys[i]) := List.getElem?_zip_eq_some.mpr ⟨List.getElem?_eq_getElem h1, List.getElem?_eq_getElem h2⟩
      rw [this]
      rfl
    · have e : (xs.zip ys)[i]? = none := List.getElem?_eq_none (by simp; omega)
      rw [e, List.getElem?_eq_none (show ys.length ≤ i by omega)]
      cases xs[i]? <;> rfl
  · have e : (xs.zip ys)[i]? = none := List.getElem?_eq_none (by simp; omega)
    rw [e, List.getElem?_eq_none (show xs.length ≤ i by omega)]
    rfl
@[simp] theorem it_dat_list {xs : List PyData} {h : Hep} : kIt (.dat (.list xs)) h = .ok (.of (.dat (.list xs))) h := by
  unfold kIt
  rw [src_list]
  cases xs with
  | nil => rfl
  | cons x r => rfl
@[simp] theorem it_dat_tup {xs : List PyData} {h : Hep} : kIt (.dat (.tuple xs)) h = .ok (.of (.dat (.tuple xs))) h := by
  unfold kIt
  rw [src_tup]
  cases xs with
  | nil => rfl
  | cons x r => rfl
@[simp] theorem it_dat_str {x : Str} {h : Hep} : kIt (.dat (.str x)) h = .ok (.of (.dat (.str x))) h := by
  unfold kIt
  rw [src_str]
  cases charsD x with
  | nil => rfl
  | cons x r => rfl
def forL (tg : Tgt) (b : MS) : List PyData → MS
  | [], env, h => .nx env h
  | d :: ds, env, h => match asgT tg (.dat d) env with
    | none => .bad
    | some env1 => (b env1 h).turn (forL tg b ds)
theorem forGo_is {tg : Tgt} {b : MS} {s : Src} {xs : List PyData} (hs : SrcIs s xs) : ∀ (f i : Nat) (env : Env) (h : Hep), i ≤ xs.length → forGo tg b s f i env h = .bad ∨ forGo tg b s f i env h = forL tg b (xs.drop i) env h
  | 0, i, env, h, _ => .inl rfl
  | f + 1, i, env, h, hi => by
    unfold forGo
    rw [hs]
    by_cases hlt : i < xs.length
    · rw [nxt_at (by simpa using hlt), List.drop_eq_getElem_cons hlt, forL]
      simp only [List.getElem_map]
      cases asgT tg (.dat xs[i]) env with
      | none => exact .inl rfl
      | some env1 =>
        simp only
        cases b env1 h with
        | nx e2 h2 => simpa using forGo_is hs f (i + 1) e2 h2 hlt
        | ct e2 h2 => simpa using forGo_is hs f (i + 1) e2 h2 hlt
        | bk e2 h2 => exact .inr rfl
        | rt v h2 => exact .inr rfl
        | er e e2 h2 => exact .inr rfl
        | bad => exact .inl rfl
    · have e : i = xs.length := by omega
      subst e
      have hz : nxt (xs.map Val.dat) xs.length = some none := by
        have := nxt_len (l := xs.map Val.dat)
        rwa [List.length_map] at this
      rw [hz, List.drop_length, forL]
      exact .inr rfl
theorem forGo_all {tg : Tgt} {b : MS} {s : Src} {xs : List PyData} (hs : SrcIs s xs) : ∀ (k i : Nat) (env : Env) (h : Hep), i + k = xs.length → forGo tg b s (k + 1) i env h = forL tg b (xs.drop i) env h
  | 0, i, env, h, e => by
    have e : i = xs.length := by omega
    subst e
    have hz : nxt (xs.map Val.dat) xs.length = some none := by
      have := nxt_len (l := xs.map Val.dat)
      rwa [List.length_map] at this
    unfold forGo
    rw [hs, hz, List.drop_length, forL]
  | k + 1, i, env, h, e => by
    have hlt : i < xs.length := by omega
    unfold forGo
    rw [hs, nxt_at (by simpa using hlt), List.drop_eq_getElem_cons hlt, forL]
    simp only [List.getElem_map]
    cases asgT tg (.dat xs[i]) env with
    | none => rfl
    | some env1 =>
      simp only
      cases b env1 h with
      | nx e2 h2 => simpa using forGo_all hs k (i + 1) e2 h2 (by omega)
      | ct e2 h2 => simpa using forGo_all hs k (i + 1) e2 h2 (by omega)
      | bk e2 h2 => rfl
      | rt v h2 => rfl
      | er e e2 h2 => rfl
      | bad => rfl
theorem mFor_is {tg : Tgt} {b : MS} {mi : Env → Hep → Out Src} {env : Env} {h h1 : Hep} {s : Src} {xs : List PyData} (hi : mi env h = .ok s h1) (hs : SrcIs s xs) : mFor tg mi b env h = forL tg b xs env h1 := by
  unfold mFor
  rw [hi, Out.st_ok]
  refine steps_all (fun f => ?_) ⟨xs.length + 1, ?_⟩
  · simpa using forGo_is hs f 0 env h1 (Nat.zero_le _)
  · simpa using forGo_all hs xs.length 0 env h1 (by omega)
/-! ### comprehensions over what stands still -/
def lcL (tg : Tgt) (mt : Env → Hep → Out Bool) (me : ME) (n : Nat) (env : Env) : List PyData → Hep → Out Unit
  | [], h => .ok () h
  | d :: ds, h => match asgT tg (.dat d) env with
    | none => .bad
    | some env1 => (mt env1 h).noEr.bind fun k h1 => if k = true then (me env1 h1).noEr.bind fun v h2 => (match putC n v h2 with
        | some h3 => lcL tg mt me n env ds h3
        | none => .bad) else lcL tg mt me n env ds h1
theorem lcGo_is {tg : Tgt} {mt : Env → Hep → Out Bool} {me : ME} {n : Nat} {s : Src} {env : Env} {xs : List PyData} (hs : SrcIs s xs) : ∀ (f i : Nat) (h : Hep), i ≤ xs.length → lcGo tg mt me n s env f i h = .bad ∨ lcGo tg mt me n s env f i h = lcL tg mt me n env (xs.drop i) h
  | 0, i, h, _ => .inl rfl
  | f + 1, i, h, hi => by
    unfold lcGo
    rw [hs]
    by_cases hlt : i < xs.length
    · rw [nxt_at (by simpa using hlt), List.drop_eq_getElem_cons hlt, lcL]
      simp only [List.getElem_map]
      cases asgT tg (.dat xs[i]) env with
      | none => exact .inl rfl
      | some env1 =>
        simp only
        cases (mt env1 h).noEr with
        | bad => exact .inl rfl
        | er e h2 => exact .inr rfl
        | ok k h1 =>
          simp only [bind_ok]
          cases k with
          | false => simpa using lcGo_is hs f (i + 1) h1 hlt
          | true =>
            simp only [if_true]
            cases (me env1 h1).noEr with
            | bad => exact .inl rfl
            | er e h2 => exact .inr rfl
            | ok v h2 =>
              simp only [bind_ok]
              cases putC n v h2 with
              | none => exact .inl rfl
              | some h3 => exact lcGo_is hs f (i + 1) h3 hlt
    · have e : i = xs.length := by omega
      subst e
      have hz : nxt (xs.map Val.dat) xs.length = some none := by
        have := nxt_len (l := xs.map Val.dat)
        rwa [List.length_map] at this
      rw [hz, List.drop_length, lcL]
      exact .inr rfl
theorem lcGo_all {tg : Tgt} {mt : Env → Hep → Out Bool} {me : ME} {n : Nat} {s : Src} {env : Env} {xs : List PyData} (hs : SrcIs s xs) : ∀ (k i : Nat) (h : Hep), i + k = xs.length → lcGo tg mt me n s env (k + 1) i h = lcL tg mt me n env (xs.drop i) h
  | 0, i, h, e => by
    have e : i = xs.length := by omega
    subst e
    have hz : nxt (xs.map Val.dat) xs.length = some none := by
      have := nxt_len (l := xs.map Val.dat)
      rwa [List.length_map] at this
    unfold lcGo
    rw [hs, hz, List.drop_length, lcL]
  | k + 1, i, h, e => by
    have hlt : i < xs.length := by omega
    unfold lcGo
    rw [hs, nxt_at (by simpa using hlt), List.drop_eq_getElem_cons hlt, lcL]
    simp only [List.getElem_map]
    cases asgT tg (.dat xs[i]) env with
    | none => rfl
    | some env1 =>
      simp only
      cases (mt env1 h).noEr with
      | bad => rfl
      | er e h2 => rfl
      | ok k' h1 =>
        simp only [bind_ok]
        cases k' with
        | false => simpa using lcGo_all hs k (i + 1) h1 (by omega)
        | true =>
          simp only [if_true]
          cases (me env1 h1).noEr with
          | bad => rfl
          | er e h2 => rfl
          | ok v h2 =>
            simp only [bind_ok]
            cases putC n v h2 with
            | none => rfl
            | some h3 => exact lcGo_all hs k (i + 1) h3 (by omega)
theorem mLc_is {md : Mode} {tg : Tgt} {mi : Env → Hep → Out Src} {mt : Env → Hep → Out Bool} {me : ME} {vs : List Nat} {env : Env} {h h1 : Hep} {s : Src} {xs : List PyData} (hi : mi env h = .ok s h1) (hs : SrcIs s xs) :
    mLc md tg mi mt me vs env h = (lcL tg mt me h1.length (wipeE env vs) xs (h1 ++ [md.init])).bind fun _ h2 => lcEnd md h1 h2 := by
  unfold mLc
  rw [hi, bind_ok]
  congr 1
  refine steps_all (fun f => ?_) ⟨xs.length + 1, ?_⟩
  · simpa using lcGo_is hs f 0 _ (Nat.zero_le _)
  · simpa using lcGo_all hs xs.length 0 _ (by omega)
theorem putC_end {h : Hep} {acc : List PyData} {d : PyData} (hz : acc.length < sizeLine) : putC h.length (.dat d) (h ++ [.lst acc]) = some (h ++ [.lst (acc ++ [d])]) := by
  unfold putC
  have e : (h ++ [Cell.lst acc])[h.length]? = some (.lst acc) := by simp
  rw [e]
  simp only
  rw [if_pos hz]
  simp [List.set_append_right]
/-- nothing but the new list changes -/
theorem lcL_pure {tg : Tgt} {mt : Env → Hep → Out Bool} {me : ME} {env : Env} {h : Hep} {p : PyData → Bool} {f : PyData → PyData} : ∀ {xs : List PyData} (acc : List PyData), acc.length + xs.length ≤ sizeLine →
    (∀ d ∈ xs, ∃ env1, asgT tg (.dat d) env = some env1 ∧ ∀ g, mt env1 g = .ok (p d) g ∧ (p d = true → me env1 g = .ok (.dat (f d)) g)) →
    lcL tg mt me h.length env xs (h ++ [.lst acc]) = .ok () (h ++ [.lst (acc ++ (xs.filter p).map f)])
  | [], acc, _, _ => by simp [lcL]
  | d :: ds, acc, hz, hx => by
    obtain ⟨env1, e1, e2⟩ := hx d (List.mem_cons_self ..)
    obtain ⟨e3, e4⟩ := e2 (h ++ [.lst acc])
    rw [lcL, e1]
    simp only [e3, Out.noEr_ok, bind_ok]
    simp only [List.length_cons] at hz
    cases q : p d with
    | false =>
      simp only [Bool.false_eq_true, if_false]
      rw [lcL_pure acc (by omega) fun x hx' => hx x (List.mem_cons_of_mem _ hx'), List.filter_cons_of_neg (by simp [q])]
    | true =>
      simp only [if_true]
      rw [e4 q, Out.noEr_ok, bind_ok, putC_end (by omega)]
      simp only
      rw [lcL_pure (acc ++ [f d]) (by simp; omega) fun x hx' => hx x (List.mem_cons_of_mem _ hx'), List.filter_cons_of_pos q]
      simp
theorem mLc_pure {tg : Tgt} {mi : Env → Hep → Out Src} {mt : Env → Hep → Out Bool} {me : ME} {vs : List Nat} {env : Env} {h : Hep} {s : Src} {xs : List PyData} (p : PyData → Bool) (f : PyData → PyData) (hi : mi env h = .ok s h) (hs : SrcIs s xs) (hz : xs.length ≤ sizeLine)
    (hx : ∀ d ∈ xs, ∃ env1, asgT tg (.dat d) (wipeE env vs) = some env1 ∧ ∀ g, mt env1 g = .ok (p d) g ∧ (p d = true → me env1 g = .ok (.dat (f d)) g)) :
    mLc .data tg mi mt me vs env h = .ok (.dat (.list ((xs.filter p).map f))) h := by
  rw [mLc_is hi hs]
  have q := lcL_pure (h := h) (tg := tg) (mt := mt) (me := me) [] (by simpa using hz) hx
  rw [List.nil_append] at q
  rw [show (h ++ [Mode.data.init] : Hep) = h ++ [.lst []] from rfl, q, bind_ok]
  unfold lcEnd
  simp only
  have e : (h ++ [Cell.lst ((xs.filter p).map f)])[h.length]? = some (.lst ((xs.filter p).map f)) := by simp
  rw [e]
  simp only
  have e2 : (h ++ [Cell.lst ((xs.filter p).map f)]).set h.length .dead = h ++ [.dead] := by simp [List.set_append_right]
  rw [e2, leave_dat]
end Vi
end Vp0_

section Vp1_
set_option linter.all false
set_option maxRecDepth 100000
/-! # Vp1: operators and built-ins on data -/
namespace Vi
open PySem PySem.Spec PyProof.Rows L2
section
variable {h : Hep} {i j : Int} {x y : Str} {b c : Bool} {d e : PyData} {xs ys : List PyData}
/-! ### arithmetic -/
@[simp] theorem add_ii : dAdd (.dat (.int i)) (.dat (.int j)) h = .ok (.dat (.int (i + j))) h := (rfl)
@[simp] theorem sub_ii : dSub (.dat (.int i)) (.dat (.int j)) h = .ok (.dat (.int (i - j))) h := (rfl)
theorem mul_ii (hm : mulOk i j = true) : dMul (.dat (.int i)) (.dat (.int j)) h = .ok (.dat (.int (i * j))) h := by
  show (if mulOk i j = true then ok (.int (i * j)) h else .bad) = _
  rw [if_pos hm]
  rfl
theorem mulOk_l (hi : i.natAbs < 2 ^ 64) : mulOk i j = true := by
  unfold mulOk
  rw [decide_eq_true hi]
  rfl
theorem mulOk_r (hj : j.natAbs < 2 ^ 64) : mulOk i j = true := by
  unfold mulOk
  rw [decide_eq_true hj, Bool.or_true]
  rfl
theorem div_ii (hj : 0 < j) (hz : j.natAbs.log2 < 9000) : dDiv (.dat (.int i)) (.dat (.int j)) h = .ok (.dat (.int (i / j))) h := by
  show (if 0 < j ∧ j.natAbs.log2 < 9000 then ok (.int (i / j)) h else .bad) = _
  rw [if_pos ⟨hj, hz⟩]
  rfl
theorem mod_ii (hj : 0 < j) : dMod (.dat (.int i)) (.dat (.int j)) h = .ok (.dat (.int (i % j))) h := by
  show (if 0 < j then ok (.int (i % j)) h else .bad) = _
  rw [if_pos hj]
  rfl
theorem add_tt (hz : xs.length + ys.length ≤ sizeLine) : dAdd (.dat (.tuple xs)) (.dat (.tuple ys)) h = .ok (.dat (.tuple (xs ++ ys))) h := by
  show (if xs.length + ys.length ≤ sizeLine then ok (.tuple (xs ++ ys)) h else .bad) = _
  rw [if_pos hz]
  rfl
theorem add_ll (hz : xs.length + ys.length ≤ sizeLine) : dAdd (.dat (.list xs)) (.dat (.list ys)) h = .ok (.dat (.list (xs ++ ys))) h := by
  show (if xs.length + ys.length ≤ sizeLine then ok (.list (xs ++ ys)) h else .bad) = _
  rw [if_pos hz]
  rfl
/-! ### comparisons -/
theorem eq_dd (h1 : d.plain = true) (h2 : e.plain = true) (h3 : min d.depth e.depth ≤ 60) : dEq (.dat d) (.dat e) h = .ok (.dat (.bool (PyData.eqv d e))) h := by
  show (if d.plain = true ∧ e.plain = true ∧ min d.depth e.depth ≤ 60 then ok (.bool (PyData.eqv d e)) h else .bad) = _
  rw [if_pos ⟨h1, h2, h3⟩]
  rfl
theorem ne_dd (h1 : d.plain = true) (h2 : e.plain = true) (h3 : min d.depth e.depth ≤ 60) : dNe (.dat d) (.dat e) h = .ok (.dat (.bool (!PyData.eqv d e))) h := by
  show (if d.plain = true ∧ e.plain = true ∧ min d.depth e.depth ≤ 60 then ok (.bool (!PyData.eqv d e)) h else .bad) = _
  rw [if_pos ⟨h1, h2, h3⟩]
  rfl
@[simp] theorem plain_i : (PyData.int i).plain = true := by simp [PyData.plain]
@[simp] theorem plain_s : (PyData.str x).plain = true := by simp [PyData.plain]
@[simp] theorem plain_b : (PyData.bool b).plain = true := by simp [PyData.plain]
@[simp] theorem plain_n : (PyData.none).plain = true := by simp [PyData.plain]
@[simp] theorem plain_t : (PyData.tuple xs).plain = PyData.plainAll xs := by simp [PyData.plain]
@[simp] theorem plain_l : (PyData.list xs).plain = PyData.plainAll xs := by simp [PyData.plain]
@[simp] theorem plain_0 : PyData.plainAll [] = true := by simp [PyData.plainAll]
@[simp] theorem plain_c : PyData.plainAll (d :: xs) = (d.plain && PyData.plainAll xs) := by simp [PyData.plainAll]
@[simp] theorem depth_i : (PyData.int i).depth = 0 := by simp [PyData.depth]
@[simp] theorem depth_s : (PyData.str x).depth = 0 := by simp [PyData.depth]
@[simp] theorem depth_b : (PyData.bool b).depth = 0 := by simp [PyData.depth]
@[simp] theorem depth_n : (PyData.none).depth = 0 := by simp [PyData.depth]
@[simp] theorem eqv_ii : PyData.eqv (.int i) (.int j) = (i == j) := by simp [PyData.eqv]
@[simp] theorem eqv_ss : PyData.eqv (.str x) (.str y) = (x == y) := by simp [PyData.eqv]
@[simp] theorem eqv_bb : PyData.eqv (.bool b) (.bool c) = (b == c) := by simp [PyData.eqv]
@[simp] theorem eq_ii : dEq (.dat (.int i)) (.dat (.int j)) h = .ok (.dat (.bool (i == j))) h := by rw [eq_dd (by simp) (by simp) (by simp)]; simp
@[simp] theorem eq_ss : dEq (.dat (.str x)) (.dat (.str y)) h = .ok (.dat (.bool (x == y))) h := by rw [eq_dd (by simp) (by simp) (by simp)]; simp
@[simp] theorem eq_bb : dEq (.dat (.bool b)) (.dat (.bool c)) h = .ok (.dat (.bool (b == c))) h := by rw [eq_dd (by simp) (by simp) (by simp)]; simp
@[simp] theorem ne_bb : dNe (.dat (.bool b)) (.dat (.bool c)) h = .ok (.dat (.bool (!(b == c)))) h := by rw [ne_dd (by simp) (by simp) (by simp)]; simp
@[simp] theorem ne_ii : dNe (.dat (.int i)) (.dat (.int j)) h = .ok (.dat (.bool (!(i == j)))) h := by rw [ne_dd (by simp) (by simp) (by simp)]; simp
theorem ord_dd {sw ng : Bool} (h1 : d.plain = true) (h2 : e.plain = true) (h3 : PySem.W.alike d e = true) (h4 : notNone d = true) (h5 : min d.depth e.depth ≤ 60) : dOrd sw ng (.dat d) (.dat e) h = .ok (.dat (.bool (ng ^^ (cond sw (PySem.W.dataLt e d) (PySem.W.dataLt d e))))) h := by
  unfold dOrd
  simp only [toDat]
  rw [if_pos ⟨h1, h2, h3, h4, h5⟩]
  rfl
theorem lt_int (i j : Int) : PySem.W.dataLt (.int i) (.int j) = decide (i < j) := by
  unfold PySem.W.dataLt
  simp [PySem.W.keyToks, PyProof.Rows.lexLt, PyProof.Rows.itemLt]
theorem alike_ii : PySem.W.alike (.int i) (.int j) = true := by simp [PySem.W.alike]
@[simp] theorem lt_ii : dLt (.dat (.int i)) (.dat (.int j)) h = .ok (.dat (.bool (decide (i < j)))) h := by
  show dOrd false false _ _ _ = _
  rw [ord_dd (by simp) (by simp) alike_ii rfl (by simp)]
  simp [lt_int]
@[simp] theorem gt_ii : dGt (.dat (.int i)) (.dat (.int j)) h = .ok (.dat (.bool (decide (j < i)))) h := by
  show dOrd true false _ _ _ = _
  rw [ord_dd (by simp) (by simp) alike_ii rfl (by simp)]
  simp [lt_int]
@[simp] theorem le_ii : dLe (.dat (.int i)) (.dat (.int j)) h = .ok (.dat (.bool (decide (i ≤ j)))) h := by
  show dOrd true true _ _ _ = _
  rw [ord_dd (by simp) (by simp) alike_ii rfl (by simp)]
  simp only [lt_int, cond]
  congr 3
  by_cases c : i ≤ j
  · rw [decide_eq_true c, decide_eq_false (by omega)]; rfl
  · rw [decide_eq_false c, decide_eq_true (by omega)]; rfl
@[simp] theorem ge_ii : dGe (.dat (.int i)) (.dat (.int j)) h = .ok (.dat (.bool (decide (j ≤ i)))) h := by
  show dOrd false true _ _ _ = _
  rw [ord_dd (by simp) (by simp) alike_ii rfl (by simp)]
  simp only [lt_int, cond]
  congr 3
  by_cases c : j ≤ i
  · rw [decide_eq_true c, decide_eq_false (by omega)]; rfl
  · rw [decide_eq_false c, decide_eq_true (by omega)]; rfl
@[simp] theorem is_none : dIs b (.dat d) (.dat .none) h = .ok (.dat (.bool (b ^^ !notNone d))) h := by
  cases d <;> cases b <;> rfl
/-! ### in -/
theorem in_tup {ng : Bool} (h1 : PyData.plainAll xs = true) (h2 : d.plain = true) (h3 : min (PyData.depthAll xs) d.depth ≤ 60) : dIn ng (.dat d) (.dat (.tuple xs)) h = .ok (.dat (.bool (ng ^^ xs.any fun y => PyData.eqv y d))) h := by
  unfold dIn
  simp only [toDat]
  rw [if_pos h2]
  simp only [inD]
  rw [if_pos ⟨h1, h3⟩]
  rfl
theorem in_lst {ng : Bool} (h1 : PyData.plainAll xs = true) (h2 : d.plain = true) (h3 : min (PyData.depthAll xs) d.depth ≤ 60) : dIn ng (.dat d) (.dat (.list xs)) h = .ok (.dat (.bool (ng ^^ xs.any fun y => PyData.eqv y d))) h := by
  unfold dIn
  simp only [toDat]
  rw [if_pos h2]
  simp only [inD]
  rw [if_pos ⟨h1, h3⟩]
  rfl
/-! ### built-ins -/
@[simp] theorem len_t : fLen [.dat (.tuple xs)] h = .ok (.dat (.int xs.length)) h := (rfl)
@[simp] theorem len_l : fLen [.dat (.list xs)] h = .ok (.dat (.int xs.length)) h := (rfl)
theorem len_s (hz : x.length ≤ sizeLine) : fLen [.dat (.str x)] h = .ok (.dat (.int x.length)) h := by
  unfold fLen
  simp only [toDat, lenD]
  rw [if_pos hz]
  rfl
@[simp] theorem abs_i : fAbs [.dat (.int i)] h = .ok (.dat (.int (if i < 0 then -i else i))) h := (rfl)
@[simp] theorem int_i : fInt [.dat (.int i)] h = .ok (.dat (.int i)) h := (rfl)
@[simp] theorem tuple_l : fTuple [.dat (.list xs)] h = .ok (.dat (.tuple xs)) h := (rfl)
@[simp] theorem tuple_t : fTuple [.dat (.tuple xs)] h = .ok (.dat (.tuple xs)) h := (rfl)
@[simp] theorem list_t : fList [.dat (.tuple xs)] h = .ok (.dat (.list xs)) h := (rfl)
@[simp] theorem list_l : fList [.dat (.list xs)] h = .ok (.dat (.list xs)) h := (rfl)
theorem boolsD_map {α : Type} (p : α → Bool) : ∀ l : List α, boolsD (l.map fun a => .bool (p a)) = some (l.map p)
  | [] => rfl
  | a :: l => by
    show (boolsD (l.map fun a => .bool (p a))).map (p a :: ·) = _
    rw [boolsD_map p l]
    rfl
theorem all_map {α : Type} (p : α → Bool) (l : List α) : fAll [.dat (.list (l.map fun a => .bool (p a)))] h = .ok (.dat (.bool (l.all p))) h := by
  unfold fAll
  simp only [toDat, Option.bind, boolsD_map]
  simp [List.all_map, Function.comp_def]
theorem intsD_map {α : Type} (p : α → Int) : ∀ l : List α, intsD (l.map fun a => .int (p a)) = some (l.map p)
  | [] => rfl
  | a :: l => by
    show (intsD (l.map fun a => .int (p a))).map (p a :: ·) = _
    rw [intsD_map p l]
    rfl
/-! ### isinstance -/
def iTup : PyData → Bool
  | .tuple _ => true
  | _ => false
def iLst : PyData → Bool
  | .list _ => true
  | _ => false
def iStr : PyData → Bool
  | .str _ => true
  | _ => false
def iInt : PyData → Bool
  | .int _ => true
  | .bool _ => true
  | _ => false
def iBool : PyData → Bool
  | .bool _ => true
  | _ => false
def iDict : PyData → Bool
  | .dict _ => true
  | _ => false
theorem isi_any {Cs : List String} : kIsi Cs (.dat d) h = .ok (.dat (.bool (Cs.any fun C => isiB (tyN d) C == some true))) h := (rfl)
theorem isiB_tuple : (isiB (tyN d) "tuple" == some true) = iTup d := by cases d <;> kernel_rfl
theorem isiB_list : (isiB (tyN d) "list" == some true) = iLst d := by cases d <;> kernel_rfl
theorem isiB_str : (isiB (tyN d) "str" == some true) = iStr d := by cases d <;> kernel_rfl
theorem isiB_int : (isiB (tyN d) "int" == some true) = iInt d := by cases d <;> kernel_rfl
theorem isiB_bool : (isiB (tyN d) "bool" == some true) = iBool d := by cases d <;> kernel_rfl
@[simp] theorem isi_tuple : kIsi ["tuple"] (.dat d) h = .ok (.dat (.bool (iTup d))) h := by rw [isi_any]; simp [isiB_tuple]
@[simp] theorem isi_list : kIsi ["list"] (.dat d) h = .ok (.dat (.bool (iLst d))) h := by rw [isi_any]; simp [isiB_list]
@[simp] theorem isi_str : kIsi ["str"] (.dat d) h = .ok (.dat (.bool (iStr d))) h := by rw [isi_any]; simp [isiB_str]
@[simp] theorem isi_int : kIsi ["int"] (.dat d) h = .ok (.dat (.bool (iInt d))) h := by rw [isi_any]; simp [isiB_int]
@[simp] theorem isi_bool : kIsi ["bool"] (.dat d) h = .ok (.dat (.bool (iBool d))) h := by rw [isi_any]; simp [isiB_bool]
@[simp] theorem isi_tl : kIsi ["tuple", "list"] (.dat d) h = .ok (.dat (.bool (iTup d || iLst d))) h := by rw [isi_any]; simp [isiB_tuple, isiB_list]
@[simp] theorem isTup_none : iTup (.none) = false := (rfl)
@[simp] theorem isTup_bool : iTup (.bool b) = false := (rfl)
@[simp] theorem isTup_int : iTup (.int i) = false := (rfl)
@[simp] theorem isTup_str : iTup (.str x) = false := (rfl)
@[simp] theorem isTup_list : iTup (.list xs) = false := (rfl)
@[simp] theorem isTup_tuple : iTup (.tuple xs) = true := (rfl)
@[simp] theorem isLst_none : iLst (.none) = false := (rfl)
@[simp] theorem isLst_bool : iLst (.bool b) = false := (rfl)
@[simp] theorem isLst_int : iLst (.int i) = false := (rfl)
@[simp] theorem isLst_str : iLst (.str x) = false := (rfl)
@[simp] theorem isLst_list : iLst (.list xs) = true := (rfl)
@[simp] theorem isLst_tuple : iLst (.tuple xs) = false := (rfl)
@[simp] theorem isStr_none : iStr (.none) = false := (rfl)
@[simp] theorem isStr_bool : iStr (.bool b) = false := (rfl)
@[simp] theorem isStr_int : iStr (.int i) = false := (rfl)
@[simp] theorem isStr_str : iStr (.str x) = true := (rfl)
@[simp] theorem isStr_list : iStr (.list xs) = false := (rfl)
@[simp] theorem isStr_tuple : iStr (.tuple xs) = false := (rfl)
@[simp] theorem isInt_none : iInt (.none) = false := (rfl)
@[simp] theorem isInt_bool : iInt (.bool b) = true := (rfl)
@[simp] theorem isInt_int : iInt (.int i) = true := (rfl)
@[simp] theorem isInt_str : iInt (.str x) = false := (rfl)
@[simp] theorem isInt_list : iInt (.list xs) = false := (rfl)
@[simp] theorem isInt_tuple : iInt (.tuple xs) = false := (rfl)
@[simp] theorem isBool_none : iBool (.none) = false := (rfl)
@[simp] theorem isBool_bool : iBool (.bool b) = true := (rfl)
@[simp] theorem isBool_int : iBool (.int i) = false := (rfl)
@[simp] theorem isBool_str : iBool (.str x) = false := (rfl)
@[simp] theorem isBool_list : iBool (.list xs) = false := (rfl)
@[simp] theorem isBool_tuple : iBool (.tuple xs) = false := (rfl)
@[simp] theorem iTup_dict {kvs : List (PyData × PyData)} : iTup (.dict kvs) = false := (rfl)
@[simp] theorem iLst_dict {kvs : List (PyData × PyData)} : iLst (.dict kvs) = false := (rfl)
@[simp] theorem iStr_dict {kvs : List (PyData × PyData)} : iStr (.dict kvs) = false := (rfl)
@[simp] theorem iInt_dict {kvs : List (PyData × PyData)} : iInt (.dict kvs) = false := (rfl)
@[simp] theorem iBool_dict {kvs : List (PyData × PyData)} : iBool (.dict kvs) = false := (rfl)
/-! ### places -/
@[simp] theorem ix_t : dIx (.dat (.tuple xs)) (.dat (.int i)) h = match atI xs i with | some r => .ok (.dat r) h | none => .bad := (rfl)
@[simp] theorem ix_l : dIx (.dat (.list xs)) (.dat (.int i)) h = match atI xs i with | some r => .ok (.dat r) h | none => .bad := (rfl)
theorem atI_nat {α : Type} {l : List α} {n : Nat} (hn : n < l.length) : atI l (n : Int) = some l[n] := by
  unfold atI ixN
  rw [if_pos (by omega), if_pos (by omega)]
  simp [hn]
theorem atI_last {α : Type} {l : List α} {a : α} : atI (l ++ [a]) (-1) = some a := by
  unfold atI ixN
  rw [if_neg (by omega), if_pos (by simp; omega)]
  simp only [Option.bind_some, List.length_append, List.length_cons, List.length_nil]
  have e : (-1 + ((l.length + (0 + 1) : Nat) : Int)).toNat = l.length := by omega
  rw [e]
  simp
@[simp] theorem sl_t {lo hi : Option Int} : kSl (.dat (.tuple xs)) lo hi h = .ok (.dat (.tuple (Vi.cut xs lo hi))) h := (rfl)
@[simp] theorem sl_l {lo hi : Option Int} : kSl (.dat (.list xs)) lo hi h = .ok (.dat (.list (Vi.cut xs lo hi))) h := (rfl)
theorem cut_take {α : Type} {l : List α} {n : Nat} : Vi.cut l none (some (n : Int)) = l.take n := by
  unfold Vi.cut HT.sIx
  simp only [List.drop_zero, Nat.sub_zero]
  rw [if_neg (by omega)]
  simp [List.take_eq_take_iff]
theorem cut_drop {α : Type} {l : List α} {n : Nat} : Vi.cut l (some (n : Int)) none = l.drop n := by
  unfold Vi.cut HT.sIx
  simp only
  rw [if_neg (by omega)]
  simp only [Int.toNat_natCast]
  by_cases c : n ≤ l.length
  · rw [Nat.min_eq_left c]
    rw [List.take_of_length_le (by simp)]
  · rw [Nat.min_eq_right (by omega), List.drop_length, List.drop_of_length_le (by omega)]
    simp
theorem cut_mid {α : Type} {l : List α} {n m : Nat} : Vi.cut l (some (n : Int)) (some (m : Int)) = (l.drop n).take (m - n) := by
  unfold Vi.cut HT.sIx
  simp only
  rw [if_neg (by omega), if_neg (by omega)]
  simp only [Int.toNat_natCast]
  by_cases c : n ≤ l.length
  · rw [Nat.min_eq_left c]
    by_cases c2 : m ≤ l.length
    · rw [Nat.min_eq_left c2]
    · rw [Nat.min_eq_right (by omega), List.take_of_length_le (by simp), List.take_of_length_le (by simp; omega)]
  · rw [Nat.min_eq_right (show l.length ≤ n by omega), List.drop_length, List.drop_of_length_le (show l.length ≤ n by omega)]
    simp
end
theorem lc_map {tg : Tgt} {mi : Env → Hep → Out Src} {me : ME} {vs : List Nat} {env : Env} {h : Hep} {s : Src} {xs : List PyData} (f : PyData → PyData) (hi : mi env h = .ok s h) (hs : SrcIs s xs) (hz : xs.length ≤ sizeLine)
    (hx : ∀ d ∈ xs, ∃ env1, asgT tg (.dat d) (wipeE env vs) = some env1 ∧ ∀ g, me env1 g = .ok (.dat (f d)) g) :
    mLc .data tg mi mYes me vs env h = .ok (.dat (.list (xs.map f))) h := by
  have q := mLc_pure (mt := mYes) (fun _ => true) f hi hs hz fun d hd => by
    obtain ⟨e1, a, b⟩ := hx d hd
    exact ⟨e1, a, fun g => ⟨rfl, fun _ => b g⟩⟩
  rw [q, show xs.filter (fun _ => true) = xs from List.filter_eq_self.mpr fun _ _ => rfl]
end Vi
end Vp1_

section Vp2_
set_option linter.all false
set_option maxRecDepth 100000
/-! # Vp2: typed comprehensions, whiles, orders of tuples -/
namespace Vi
open PySem PySem.Spec PyProof.Rows L2
/-! ### typed comprehensions -/
theorem lcL_of {α : Type} {inj : α → PyData} {tg : Tgt} {mt : Env → Hep → Out Bool} {me : ME} {env : Env} {h : Hep} {p : α → Bool} {f : α → PyData} : ∀ {l : List α} (acc : List PyData), acc.length + l.length ≤ sizeLine →
    (∀ a ∈ l, ∃ env1, asgT tg (.dat (inj a)) env = some env1 ∧ ∀ g, mt env1 g = .ok (p a) g ∧ (p a = true → me env1 g = .ok (.dat (f a)) g)) →
    lcL tg mt me h.length env (l.map inj) (h ++ [.lst acc]) = .ok () (h ++ [.lst (acc ++ (l.filter p).map f)])
  | [], acc, _, _ => by simp [lcL]
  | d :: ds, acc, hz, hx => by
    obtain ⟨env1, e1, e2⟩ := hx d (List.mem_cons_self ..)
    obtain ⟨e3, e4⟩ := e2 (h ++ [.lst acc])
    rw [List.map_cons, lcL, e1]
    simp only [e3, Out.noEr_ok, bind_ok]
    simp only [List.length_cons] at hz
    cases q : p d with
    | false =>
      simp only [Bool.false_eq_true, if_false]
      rw [lcL_of acc (by omega) fun x hx' => hx x (List.mem_cons_of_mem _ hx'), List.filter_cons_of_neg (by simp [q])]
    | true =>
      simp only [if_true]
      rw [e4 q, Out.noEr_ok, bind_ok, putC_end (by omega)]
      simp only
      rw [lcL_of (acc ++ [f d]) (by simp; omega) fun x hx' => hx x (List.mem_cons_of_mem _ hx'), List.filter_cons_of_pos q]
      simp
theorem lcEnd_data {h : Hep} {acc : List PyData} : lcEnd .data h (h ++ [.lst acc]) = .ok (.dat (.list acc)) h := by
  unfold lcEnd
  simp only
  have e : (h ++ [Cell.lst acc])[h.length]? = some (.lst acc) := by simp
  rw [e]
  simp only
  have e2 : (h ++ [Cell.lst acc]).set h.length .dead = h ++ [.dead] := by simp [List.set_append_right]
  rw [e2, leave_dat]
theorem lc_of {α : Type} {inj : α → PyData} {tg : Tgt} {mi : Env → Hep → Out Src} {mt : Env → Hep → Out Bool} {me : ME} {vs : List Nat} {env : Env} {h : Hep} {s : Src} {l : List α} (p : α → Bool) (f : α → PyData) (hs : SrcIs s (l.map inj)) (hz : l.length ≤ sizeLine) (hi : mi env h = .ok s h)
    (hx : ∀ a ∈ l, ∃ env1, asgT tg (.dat (inj a)) (wipeE env vs) = some env1 ∧ ∀ g, mt env1 g = .ok (p a) g ∧ (p a = true → me env1 g = .ok (.dat (f a)) g)) :
    mLc .data tg mi mt me vs env h = .ok (.dat (.list ((l.filter p).map f))) h := by
  rw [mLc_is hi hs]
  have q := lcL_of (h := h) (tg := tg) (mt := mt) (me := me) [] (by simpa using hz) hx
  rw [List.nil_append] at q
  rw [show (h ++ [Mode.data.init] : Hep) = h ++ [.lst []] from rfl, q, bind_ok]
  exact lcEnd_data
theorem filter_yes {α : Type} (l : List α) : l.filter (fun _ => true) = l := List.filter_eq_self.mpr fun _ _ => rfl
/-- [f for a in l] -/
theorem lc_ofy {α : Type} {inj : α → PyData} {tg : Tgt} {mi : Env → Hep → Out Src} {me : ME} {vs : List Nat} {env : Env} {h : Hep} {s : Src} {l : List α} (f : α → PyData) (hs : SrcIs s (l.map inj)) (hz : l.length ≤ sizeLine) (hi : mi env h = .ok s h)
    (hx : ∀ a ∈ l, ∃ env1, asgT tg (.dat (inj a)) (wipeE env vs) = some env1 ∧ ∀ g, me env1 g = .ok (.dat (f a)) g) :
    mLc .data tg mi mYes me vs env h = .ok (.dat (.list (l.map f))) h := by
  have q := lc_of (mt := mYes) (me := me) (vs := vs) (fun _ => true) f hs hz hi fun a ha => by
    obtain ⟨e1, x, y⟩ := hx a ha
    exact ⟨e1, x, fun g => ⟨rfl, fun _ => y g⟩⟩
  rw [q, filter_yes]
/-- [d for a in l if p] has as many as -/
theorem lc_ofc {α : Type} {inj : α → PyData} {tg : Tgt} {mi : Env → Hep → Out Src} {mt : Env → Hep → Out Bool} {d : PyData} {vs : List Nat} {env : Env} {h : Hep} {s : Src} {l : List α} (p : α → Bool) (hs : SrcIs s (l.map inj)) (hz : l.length ≤ sizeLine) (hi : mi env h = .ok s h)
    (hx : ∀ a ∈ l, ∃ env1, asgT tg (.dat (inj a)) (wipeE env vs) = some env1 ∧ ∀ g, mt env1 g = .ok (p a) g) :
    mLc .data tg mi mt (mC d) vs env h = .ok (.dat (.list ((l.filter p).map fun _ => d))) h :=
  lc_of p (fun _ => d) hs hz hi fun a ha => by
    obtain ⟨e1, x, y⟩ := hx a ha
    exact ⟨e1, x, fun g => ⟨y g, fun _ => rfl⟩⟩
theorem src_list_of {α : Type} (inj : α → PyData) (l : List α) : SrcIs (.of (.dat (.list (l.map inj)))) (l.map inj) := src_list _
theorem src_tup_of {α : Type} (inj : α → PyData) (l : List α) : SrcIs (.of (.dat (.tuple (l.map inj)))) (l.map inj) := src_tup _
/-! ### comprehensions that change the hand: the cell in front -/
def Dr (Hd : Cell → Prop) (m : Hep → Out Val) (Q : PyData → Prop) : Prop := ∀ c cs, Hd c → Flat cs → ∃ v c', m (c :: cs) = .ok (.dat v) (c' :: cs) ∧ Hd c' ∧ Q v
theorem flat_c {Hd : Cell → Prop} (hc : ∀ c, Hd c → c.closed 0) {c : Cell} {cs : Hep} (a : Hd c) (b : Flat cs) : Flat (c :: cs) := fun x hx => by
  rcases List.mem_cons.mp hx with rfl | hx
  · exact hc _ a
  · exact b x hx
theorem flat_a {cs : Hep} {xs : List PyData} (b : Flat cs) : Flat (cs ++ [.lst xs]) := fun x hx => by
  rcases List.mem_append.mp hx with hx | hx
  · exact b x hx
  · cases List.mem_singleton.mp hx
    trivial
theorem flat_0 : Flat [] := fun x hx => by simp at hx
theorem leave_hd {Hd : Cell → Prop} (hc : ∀ c, Hd c → c.closed 0) {c c' : Cell} {cs ds : Hep} {d : PyData} (a : Hd c') (b : Flat cs) : leave (c :: cs) (.dat d) (c' :: (cs ++ ds)) = .ok (.dat d) (c' :: cs) := by
  have q := leave_flat (h0 := c :: cs) (h := c' :: cs) (cs := ds) (d := d) (by simp) (flat_c hc a b)
  simpa using q
theorem leave_hd0 {Hd : Cell → Prop} (hc : ∀ c, Hd c → c.closed 0) {c c' : Cell} {cs : Hep} {d : PyData} (a : Hd c') (b : Flat cs) : leave (c :: cs) (.dat d) (c' :: cs) = .ok (.dat d) (c' :: cs) := by
  have q := leave_hd hc (c := c) (ds := []) (d := d) a b
  simpa using q
theorem lcL_dr {Hd : Cell → Prop} {Q : PyData → Prop} {tg : Tgt} {me : ME} {env : Env} : ∀ {l : List PyData} {c : Cell} {cs : Hep} (acc : List PyData), acc.length + l.length ≤ sizeLine → Hd c → Flat cs →
    (∀ d ∈ l, ∃ env1, asgT tg (.dat d) env = some env1 ∧ Dr Hd (me env1) Q) →
    ∃ c' vs, lcL tg mYes me (cs.length + 1) env l (c :: (cs ++ [.lst acc])) = .ok () (c' :: (cs ++ [.lst (acc ++ vs)])) ∧ Hd c' ∧ vs.length = l.length ∧ ∀ v ∈ vs, Q v
  | [], c, cs, acc, _, hc, _, _ => ⟨c, [], by simp [lcL], hc, rfl, fun v hv => by simp at hv⟩
  | d :: ds, c, cs, acc, hz, hc, hf, hx => by
    obtain ⟨env1, e1, e2⟩ := hx d (List.mem_cons_self ..)
    obtain ⟨v, c1, e3, h1, qv⟩ := e2 c (cs ++ [.lst acc]) hc (flat_a hf)
    simp only [List.length_cons] at hz
    obtain ⟨c2, vs, e4, h2, l2, q2⟩ := lcL_dr (acc ++ [v]) (by simp; omega) h1 hf fun x hx' => hx x (List.mem_cons_of_mem _ hx')
    refine ⟨c2, v :: vs, ?_, h2, by simp [l2], fun w hw => ?_⟩
    · rw [lcL, e1]
      simp only [x_yes, Out.noEr_ok, bind_ok, if_true, e3]
      have p : putC (cs.length + 1) (.dat v) (c1 :: (cs ++ [.lst acc])) = some (c1 :: (cs ++ [.lst (acc ++ [v])])) := by
        have q := putC_end (h := c1 :: cs) (acc := acc) (d := v) (by omega)
        simpa using q
      rw [p]
      simp only
      rw [e4]
      simp
    · rcases List.mem_cons.mp hw with rfl | hw
      · exact qv
      · exact q2 w hw
theorem lc_dr {Hd : Cell → Prop} (hcl : ∀ c, Hd c → c.closed 0) {Q : PyData → Prop} {tg : Tgt} {mi : Env → Hep → Out Src} {me : ME} {wv : List Nat} {env : Env} {h : Hep} {s : Src} {l : List PyData} {c : Cell} {cs : Hep} (hi : mi env h = .ok s (c :: cs)) (hs : SrcIs s l) (hz : l.length ≤ sizeLine) (hc : Hd c) (hf : Flat cs)
    (hx : ∀ d ∈ l, ∃ env1, asgT tg (.dat d) (wipeE env wv) = some env1 ∧ Dr Hd (me env1) Q) :
    ∃ c' vs, mLc .data tg mi mYes me wv env h = .ok (.dat (.list vs)) (c' :: cs) ∧ Hd c' ∧ vs.length = l.length ∧ ∀ v ∈ vs, Q v := by
  obtain ⟨c2, vs, e, h2, l2, q2⟩ := lcL_dr [] (by simpa using hz) hc hf hx
  refine ⟨c2, vs, ?_, h2, l2, q2⟩
  rw [mLc_is hi hs]
  have e' : lcL tg mYes me (c :: cs).length (wipeE env wv) l ((c :: cs) ++ [Mode.data.init]) = .ok () (c2 :: (cs ++ [.lst vs])) := by
    simpa [Mode.init] using e
  rw [e', bind_ok]
  unfold lcEnd
  simp only
  have e : (c2 :: (cs ++ [Cell.lst vs]))[(c :: cs).length]? = some (.lst vs) := by simp
  rw [e]
  simp only
  have e2 : (c2 :: (cs ++ [Cell.lst vs])).set (c :: cs).length .dead = c2 :: (cs ++ [.dead]) := by simp [List.set_append_right]
  rw [e2]
  exact leave_hd hcl h2 hf
/-! ### for and while by invariants -/
theorem forL_inv {tg : Tgt} {b : MS} (I : List PyData → Env → Hep → Prop) (hI : ∀ d ds env h, I (d :: ds) env h → ∃ env1, asgT tg (.dat d) env = some env1 ∧ ∃ e2 h2, (b env1 h = .nx e2 h2 ∨ b env1 h = .ct e2 h2) ∧ I ds e2 h2) :
    ∀ {xs : List PyData} {env : Env} {h : Hep}, I xs env h → ∃ e2 h2, forL tg b xs env h = .nx e2 h2 ∧ I [] e2 h2
  | [], env, h, i => ⟨env, h, rfl, i⟩
  | d :: ds, env, h, i => by
    obtain ⟨env1, e1, e2, h2, e3, i2⟩ := hI d ds env h i
    obtain ⟨e4, h4, e5, i4⟩ := forL_inv I hI i2
    refine ⟨e4, h4, ?_, i4⟩
    rw [forL, e1]
    simp only
    rcases e3 with e3 | e3
    · rw [e3, turn_nx, e5]
    · rw [e3, turn_ct, e5]
theorem whGo_s {c : Env → Hep → Out Bool} {b : MS} {f : Nat} {env : Env} {h : Hep} : whGo c b (f + 1) env h = (c env h).st env fun k h1 => if k = true then (b env h1).turn (whGo c b f) else .nx env h1 := (rfl)
theorem whGo_mono {c : Env → Hep → Out Bool} {b : MS} : ∀ (f : Nat) (env : Env) (h : Hep), whGo c b f env h ≠ .bad → whGo c b (f + 1) env h = whGo c b f env h
  | 0, env, h, n => absurd rfl n
  | f + 1, env, h, n => by
    rw [whGo_s] at n
    rw [whGo_s, whGo_s]
    cases q : c env h with
    | bad => rfl
    | er e h1 => rfl
    | ok k h1 =>
      rw [q] at n
      simp only [Out.st_ok] at n ⊢
      cases k with
      | false => rfl
      | true =>
        simp only [if_true] at n ⊢
        cases q2 : b env h1 with
        | bad => rfl
        | nx e2 h2 =>
          rw [q2] at n
          exact whGo_mono f e2 h2 n
        | ct e2 h2 =>
          rw [q2] at n
          exact whGo_mono f e2 h2 n
        | bk e2 h2 => rfl
        | rt v h2 => rfl
        | er e e2 h2 => rfl
theorem whGo_le {c : Env → Hep → Out Bool} {b : MS} {env : Env} {h : Hep} {f : Nat} (n : whGo c b f env h ≠ .bad) : ∀ k, whGo c b (f + k) env h = whGo c b f env h
  | 0 => rfl
  | k + 1 => by
    have e := whGo_le n k
    rw [← Nat.add_assoc, whGo_mono _ _ _ (by rw [e]; exact n), e]
theorem whGo_eq {c : Env → Hep → Out Bool} {b : MS} {env : Env} {h : Hep} {f g : Nat} (n : whGo c b f env h ≠ .bad) (m : whGo c b g env h ≠ .bad) : whGo c b f env h = whGo c b g env h := by
  rcases Nat.le_total f g with l | l
  · obtain ⟨k, rfl⟩ := Nat.exists_eq_add_of_le l
    exact (whGo_le n k).symm
  · obtain ⟨k, rfl⟩ := Nat.exists_eq_add_of_le l
    exact whGo_le m k
theorem mWhile_at {c : Env → Hep → Out Bool} {b : MS} {env : Env} {h : Hep} {f : Nat} (n : whGo c b f env h ≠ .bad) : mWhile c b env h = whGo c b f env h := by
  unfold mWhile steps
  split
  · rename_i q
    exact whGo_eq (Classical.choose_spec q) n
  · rename_i q
    exact absurd ⟨f, n⟩ q
theorem mWhile_stop {c : Env → Hep → Out Bool} {b : MS} {env : Env} {h h1 : Hep} (e : c env h = .ok false h1) : mWhile c b env h = .nx env h1 := by
  have q : whGo c b 1 env h = .nx env h1 := by
    rw [whGo_s, e]
    rfl
  rw [mWhile_at (f := 1) (by rw [q]; exact fun z => by cases z), q]
theorem mWhile_step {c : Env → Hep → Out Bool} {b : MS} {env e2 : Env} {h h1 h2 : Hep} (e : c env h = .ok true h1) (eb : b env h1 = .nx e2 h2 ∨ b env h1 = .ct e2 h2) : mWhile c b env h = mWhile c b e2 h2 := by
  have q : ∀ f, whGo c b (f + 1) env h = whGo c b f e2 h2 := fun f => by
    rw [whGo_s, e]
    simp only [Out.st_ok, if_true]
    rcases eb with eb | eb <;> rw [eb] <;> rfl
  by_cases x : ∃ f, whGo c b f e2 h2 ≠ .bad
  · obtain ⟨f, n⟩ := x
    rw [mWhile_at n, mWhile_at (f := f + 1) (by rw [q]; exact n), q]
  · have y : ¬ ∃ f, whGo c b f env h ≠ .bad := by
      rintro ⟨f, n⟩
      cases f with
      | zero => exact n rfl
      | succ f =>
        rw [q] at n
        exact x ⟨f, n⟩
    unfold mWhile steps
    rw [dif_neg x, dif_neg y]
/-! ### orders of tuples of numbers -/
def lexI : List Int → List Int → Bool
  | [], [] => false
  | [], _ :: _ => true
  | _ :: _, [] => false
  | i :: is, j :: js => decide (i < j) || (i == j && lexI is js)
theorem toks_ints : ∀ is js : List Int, PyProof.Rows.lexLt itemOrd (PySem.W.keyToksAll (is.map .int)) (PySem.W.keyToksAll (js.map .int)) = lexI is js
  | [], [] => by simp [PySem.W.keyToksAll, lexI, PyProof.Rows.lexLt]; rfl
  | [], j :: js => by simp [PySem.W.keyToksAll, lexI]; rfl
  | i :: is, [] => by simp [PySem.W.keyToksAll, lexI]; rfl
  | i :: is, j :: js => by
    rw [List.map_cons, List.map_cons, PySem.W.keyToksAll, PySem.W.keyToksAll, lexI, ← toks_ints is js]
    simp only [PySem.W.keyToks, List.cons_append, List.nil_append]
    rw [PyProof.Rows.lex_cons, PyProof.Rows.lex_cons]
    have e1 : itemOrd.blt (Sum.inl (1 : Int)) (Sum.inl (1 : Int)) = false := rfl
    have e2 : ∀ a b : Int, itemOrd.blt (Sum.inl a) (Sum.inl b) = decide (a < b) := fun a b => rfl
    rw [e1, e2, e2]
    by_cases c : i < j
    · simp [c]
    · by_cases c2 : i = j
      · subst c2
        simp
      · have : j < i := by omega
        simp [c, c2, this]
theorem lt_ints (is js : List Int) : PySem.W.dataLt (.tuple (is.map .int)) (.tuple (js.map .int)) = lexI is js := by
  unfold PySem.W.dataLt
  rw [PySem.W.keyToks, PySem.W.keyToks]
  exact toks_ints is js
theorem plain_ints : ∀ is : List Int, PyData.plainAll (is.map PyData.int) = true
  | [] => plain_0
  | i :: is => by rw [List.map_cons, plain_c, plain_ints is]; simp
theorem alike_ints : ∀ is js : List Int, is.length = js.length → PySem.W.alikeAll (is.map .int) (js.map .int) = true
  | [], [], _ => by simp [PySem.W.alikeAll]
  | i :: is, j :: js, e => by
    rw [List.map_cons, List.map_cons, PySem.W.alikeAll, alike_ints is js (by simpa using e), alike_ii]
    rfl
theorem depth_ints : ∀ is : List Int, PyData.depthAll (is.map PyData.int) ≤ 1
  | [] => by simp [PyData.depthAll]
  | i :: is => by
    have := depth_ints is
    simp only [List.map_cons, PyData.depthAll, depth_i]
    omega
theorem lt_tt {is js : List Int} {h : Hep} (e : is.length = js.length) : dLt (.dat (.tuple (is.map .int))) (.dat (.tuple (js.map .int))) h = .ok (.dat (.bool (lexI is js))) h := by
  show dOrd false false _ _ _ = _
  rw [ord_dd (by simp [plain_ints]) (by simp [plain_ints]) (by rw [PySem.W.alike]; exact alike_ints is js e) rfl (by have := depth_ints is; simp only [PyData.depth]; omega)]
  simp [lt_ints]
/-! ### displays -/
section
variable {h : Hep}
@[simp] theorem kTup_0 : Vi.kTup [] h = .ok (.dat (.tuple [])) h := (rfl)
@[simp] theorem kLst_0 : Vi.kLst [] h = .ok (.dat (.list [])) h := (rfl)
@[simp] theorem kCel_0 : Vi.kCel [] h = .ok (.ref h.length) (h ++ [.lst []]) := (rfl)
@[simp] theorem kTup_1 {a0 : PyData} : Vi.kTup [.dat a0] h = .ok (.dat (.tuple [a0])) h := (rfl)
@[simp] theorem kLst_1 {a0 : PyData} : Vi.kLst [.dat a0] h = .ok (.dat (.list [a0])) h := (rfl)
@[simp] theorem kCel_1 {a0 : PyData} : Vi.kCel [.dat a0] h = .ok (.ref h.length) (h ++ [.lst [a0]]) := (rfl)
@[simp] theorem kTup_2 {a0 a1 : PyData} : Vi.kTup [.dat a0, .dat a1] h = .ok (.dat (.tuple [a0, a1])) h := (rfl)
@[simp] theorem kLst_2 {a0 a1 : PyData} : Vi.kLst [.dat a0, .dat a1] h = .ok (.dat (.list [a0, a1])) h := (rfl)
@[simp] theorem kCel_2 {a0 a1 : PyData} : Vi.kCel [.dat a0, .dat a1] h = .ok (.ref h.length) (h ++ [.lst [a0, a1]]) := (rfl)
@[simp] theorem kTup_3 {a0 a1 a2 : PyData} : Vi.kTup [.dat a0, .dat a1, .dat a2] h = .ok (.dat (.tuple [a0, a1, a2])) h := (rfl)
@[simp] theorem kLst_3 {a0 a1 a2 : PyData} : Vi.kLst [.dat a0, .dat a1, .dat a2] h = .ok (.dat (.list [a0, a1, a2])) h := (rfl)
@[simp] theorem kCel_3 {a0 a1 a2 : PyData} : Vi.kCel [.dat a0, .dat a1, .dat a2] h = .ok (.ref h.length) (h ++ [.lst [a0, a1, a2]]) := (rfl)
@[simp] theorem kTup_4 {a0 a1 a2 a3 : PyData} : Vi.kTup [.dat a0, .dat a1, .dat a2, .dat a3] h = .ok (.dat (.tuple [a0, a1, a2, a3])) h := (rfl)
@[simp] theorem kLst_4 {a0 a1 a2 a3 : PyData} : Vi.kLst [.dat a0, .dat a1, .dat a2, .dat a3] h = .ok (.dat (.list [a0, a1, a2, a3])) h := (rfl)
@[simp] theorem kCel_4 {a0 a1 a2 a3 : PyData} : Vi.kCel [.dat a0, .dat a1, .dat a2, .dat a3] h = .ok (.ref h.length) (h ++ [.lst [a0, a1, a2, a3]]) := (rfl)
@[simp] theorem kTup_5 {a0 a1 a2 a3 a4 : PyData} : Vi.kTup [.dat a0, .dat a1, .dat a2, .dat a3, .dat a4] h = .ok (.dat (.tuple [a0, a1, a2, a3, a4])) h := (rfl)
@[simp] theorem kLst_5 {a0 a1 a2 a3 a4 : PyData} : Vi.kLst [.dat a0, .dat a1, .dat a2, .dat a3, .dat a4] h = .ok (.dat (.list [a0, a1, a2, a3, a4])) h := (rfl)
@[simp] theorem kCel_5 {a0 a1 a2 a3 a4 : PyData} : Vi.kCel [.dat a0, .dat a1, .dat a2, .dat a3, .dat a4] h = .ok (.ref h.length) (h ++ [.lst [a0, a1, a2, a3, a4]]) := (rfl)
@[simp] theorem kTup_6 {a0 a1 a2 a3 a4 a5 : PyData} : Vi.kTup [.dat a0, .dat a1, .dat a2, .dat a3, .dat a4, .dat a5] h = .ok (.dat (.tuple [a0, a1, a2, a3, a4, a5])) h := (rfl)
@[simp] theorem kLst_6 {a0 a1 a2 a3 a4 a5 : PyData} : Vi.kLst [.dat a0, .dat a1, .dat a2, .dat a3, .dat a4, .dat a5] h = .ok (.dat (.list [a0, a1, a2, a3, a4, a5])) h := (rfl)
@[simp] theorem kTup_7 {a0 a1 a2 a3 a4 a5 a6 : PyData} : Vi.kTup [.dat a0, .dat a1, .dat a2, .dat a3, .dat a4, .dat a5, .dat a6] h = .ok (.dat (.tuple [a0, a1, a2, a3, a4, a5, a6])) h := (rfl)
@[simp] theorem kLst_7 {a0 a1 a2 a3 a4 a5 a6 : PyData} : Vi.kLst [.dat a0, .dat a1, .dat a2, .dat a3, .dat a4, .dat a5, .dat a6] h = .ok (.dat (.list [a0, a1, a2, a3, a4, a5, a6])) h := (rfl)
@[simp] theorem kTup_8 {a0 a1 a2 a3 a4 a5 a6 a7 : PyData} : Vi.kTup [.dat a0, .dat a1, .dat a2, .dat a3, .dat a4, .dat a5, .dat a6, .dat a7] h = .ok (.dat (.tuple [a0, a1, a2, a3, a4, a5, a6, a7])) h := (rfl)
@[simp] theorem kLst_8 {a0 a1 a2 a3 a4 a5 a6 a7 : PyData} : Vi.kLst [.dat a0, .dat a1, .dat a2, .dat a3, .dat a4, .dat a5, .dat a6, .dat a7] h = .ok (.dat (.list [a0, a1, a2, a3, a4, a5, a6, a7])) h := (rfl)
@[simp] theorem kLst_9 {a0 a1 a2 a3 a4 a5 a6 a7 a8 : PyData} : Vi.kLst [.dat a0, .dat a1, .dat a2, .dat a3, .dat a4, .dat a5, .dat a6, .dat a7, .dat a8] h = .ok (.dat (.list [a0, a1, a2, a3, a4, a5, a6, a7, a8])) h := (rfl)
@[simp] theorem kLst_10 {a0 a1 a2 a3 a4 a5 a6 a7 a8 a9 : PyData} : Vi.kLst [.dat a0, .dat a1, .dat a2, .dat a3, .dat a4, .dat a5, .dat a6, .dat a7, .dat a8, .dat a9] h = .ok (.dat (.list [a0, a1, a2, a3, a4, a5, a6, a7, a8, a9])) h := (rfl)
@[simp] theorem kLst_11 {a0 a1 a2 a3 a4 a5 a6 a7 a8 a9 a10 : PyData} : Vi.kLst [.dat a0, .dat a1, .dat a2, .dat a3, .dat a4, .dat a5, .dat a6, .dat a7, .dat a8, .dat a9, .dat a10] h = .ok (.dat (.list [a0, a1, a2, a3, a4, a5, a6, a7, a8, a9, a10])) h := (rfl)
@[simp] theorem kLst_12 {a0 a1 a2 a3 a4 a5 a6 a7 a8 a9 a10 a11 : PyData} : Vi.kLst [.dat a0, .dat a1, .dat a2, .dat a3, .dat a4, .dat a5, .dat a6, .dat a7, .dat a8, .dat a9, .dat a10, .dat a11] h = .ok (.dat (.list [a0, a1, a2, a3, a4, a5, a6, a7, a8, a9, a10, a11])) h := (rfl)
@[simp] theorem kLst_13 {a0 a1 a2 a3 a4 a5 a6 a7 a8 a9 a10 a11 a12 : PyData} : Vi.kLst [.dat a0, .dat a1, .dat a2, .dat a3, .dat a4, .dat a5, .dat a6, .dat a7, .dat a8, .dat a9, .dat a10, .dat a11, .dat a12] h = .ok (.dat (.list [a0, a1, a2, a3, a4, a5, a6, a7, a8, a9, a10, a11, a12])) h := (rfl)
@[simp] theorem kLst_14 {a0 a1 a2 a3 a4 a5 a6 a7 a8 a9 a10 a11 a12 a13 : PyData} : Vi.kLst [.dat a0, .dat a1, .dat a2, .dat a3, .dat a4, .dat a5, .dat a6, .dat a7, .dat a8, .dat a9, .dat a10, .dat a11, .dat a12, .dat a13] h = .ok (.dat (.list [a0, a1, a2, a3, a4, a5, a6, a7, a8, a9, a10, a11, a12, a13])) h := (rfl)
@[simp] theorem kLst_15 {a0 a1 a2 a3 a4 a5 a6 a7 a8 a9 a10 a11 a12 a13 a14 : PyData} : Vi.kLst [.dat a0, .dat a1, .dat a2, .dat a3, .dat a4, .dat a5, .dat a6, .dat a7, .dat a8, .dat a9, .dat a10, .dat a11, .dat a12, .dat a13, .dat a14] h = .ok (.dat (.list [a0, a1, a2, a3, a4, a5, a6, a7, a8, a9, a10, a11, a12, a13, a14])) h := (rfl)
@[simp] theorem kLst_16 {a0 a1 a2 a3 a4 a5 a6 a7 a8 a9 a10 a11 a12 a13 a14 a15 : PyData} : Vi.kLst [.dat a0, .dat a1, .dat a2, .dat a3, .dat a4, .dat a5, .dat a6, .dat a7, .dat a8, .dat a9, .dat a10, .dat a11, .dat a12, .dat a13, .dat a14, .dat a15] h = .ok (.dat (.list [a0, a1, a2, a3, a4, a5, a6, a7, a8, a9, a10, a11, a12, a13, a14, a15])) h := (rfl)
end
@[simp] theorem x_partC {i : Int} {env : Vi.Env} {h : Hep} : mPart (mC (.int i)) env h = .ok (some i) h := (rfl)
@[simp] theorem x_partV {i : Nat} {j : Int} {v : Val} {env : Vi.Env} {h : Hep} : mPart (mVar (i + 1)) (v :: env) h = mPart (mVar i) env h := by
  unfold mPart
  rw [x_varS]
@[simp] theorem x_partV0 {j : Int} {env : Vi.Env} {h : Hep} : mPart (mVar 0) (some (.dat (.int j)) :: env) h = .ok (some j) h := (rfl)
theorem x_partB {f : F2} {a b : ME} {i : Int} {env : Vi.Env} {h g : Hep} (e : mBin f a b env h = .ok (.dat (.int i)) g) : mPart (mBin f a b) env h = .ok (some i) g := x_part e
@[simp] theorem x_store {me mo mi : ME} {env : Vi.Env} {h : Hep} : mStore me mo mi env h = (me env h).st env fun v h1 => (mo env h1).st env fun o h2 => (mi env h2).st env fun i h3 => match kSub o i v h3 with
  | some h4 => .nx env h4
  | none => .bad := (rfl)
@[simp] theorem st_ok' {α : Type} {x : α} {h : Hep} {env : Vi.Env} {f : α → Hep → SOut} : (Out.ok x h).st env f = f x h := (rfl)
@[simp] theorem wipe_0 {env : Vi.Env} : wipeE env [] = env := (rfl)
@[simp] theorem wipe_c {env : Vi.Env} {v : Nat} {vs : List Nat} : wipeE env (v :: vs) = (wipeE env vs).set v none := (rfl)
@[simp] theorem x_meth {Ts : List String} {f : F3} {mo : ME} {ma : Vi.Env → Hep → Out (List Val)} {env : Vi.Env} {h : Hep} : mMeth Ts f mo ma env h = (mo env h).bind fun x h1 => match tyC h1 x with
  | some T => if T ∈ Ts then (ma env h1).bind fun as h2 => if tyC h2 x = some T then f x as h2 else .bad else .bad
  | none => .bad := (rfl)
@[simp] theorem tyC_t {xs : List PyData} {h : Hep} : tyC h (.dat (.tuple xs)) = some "tuple" := (rfl)
@[simp] theorem tyC_l {xs : List PyData} {h : Hep} : tyC h (.dat (.list xs)) = some "list" := (rfl)
@[simp] theorem tyC_s {x : Str} {h : Hep} : tyC h (.dat (.str x)) = some "str" := (rfl)
theorem mul_l {i j : Int} {h : Hep} (hi : i.natAbs < 2 ^ 64) : dMul (.dat (.int i)) (.dat (.int j)) h = .ok (.dat (.int (i * j))) h := mul_ii (mulOk_l hi)
theorem mul_r {i j : Int} {h : Hep} (hj : j.natAbs < 2 ^ 64) : dMul (.dat (.int i)) (.dat (.int j)) h = .ok (.dat (.int (i * j))) h := mul_ii (mulOk_r hj)
theorem pow_ii {i j : Int} {h : Hep} (h1 : 0 ≤ j ∧ j ≤ 1000000 ∧ i.natAbs < 2 ^ 64) : dPow (.dat (.int i)) (.dat (.int j)) h = .ok (.dat (.int (i ^ j.toNat))) h := by
  show (if 0 ≤ j ∧ j ≤ 1000000 ∧ i.natAbs < 2 ^ 64 then ok (.int (i ^ j.toNat)) h else .bad) = _
  rw [if_pos h1]
  rfl
theorem log_small {j : Int} (h0 : 0 < j) (h : j ≤ 2 ^ 40) : j.natAbs.log2 < 9000 := by
  have : j.natAbs ≠ 0 := by omega
  rw [Nat.log2_lt this]
  calc j.natAbs ≤ 2 ^ 40 := by omega
    _ < 2 ^ 9000 := Nat.pow_lt_pow_right (by omega) (by omega)
theorem mod_small {x : Int} {j : Int} (h0 : 0 < j) (h : j ≤ 2 ^ 40) : (x % j).natAbs < 2 ^ 64 := by
  have h1 := Int.emod_nonneg x (show j ≠ 0 by omega)
  have h2 := Int.emod_lt_of_pos x h0
  omega
theorem all_of {α : Type} {p : α → Bool} {f : α → PyData} {l : List α} {h : Hep} (e : ∀ a ∈ l, f a = .bool (p a)) : fAll [.dat (.list (l.map f))] h = .ok (.dat (.bool (l.all p))) h := by
  rw [show l.map f = l.map fun a => .bool (p a) from List.map_congr_left e]
  exact all_map p l
theorem sum_of {α : Type} {p : α → Int} {f : α → PyData} {l : List α} {h : Hep} (e : ∀ a ∈ l, f a = .int (p a)) : fSum [.dat (.list (l.map f))] h = .ok (.dat (.int (l.map p).sum)) h := by
  rw [show l.map f = l.map fun a => .int (p a) from List.map_congr_left e]
  unfold fSum
  simp only [toDat, Option.bind_some, itemsD, intsD_map]
  rfl
theorem sum_t {l : List Int} {h : Hep} : fSum [.dat (.tuple (l.map .int))] h = .ok (.dat (.int l.sum)) h := by
  have e : intsD (l.map PyData.int) = some l := by simpa using intsD_map id l
  unfold fSum
  simp only [toDat, Option.bind_some, itemsD, e]
  rfl
theorem cut_map {α β : Type} {f : α → β} {l : List α} {lo hi : Option Int} : Vi.cut (l.map f) lo hi = (Vi.cut l lo hi).map f := by
  unfold Vi.cut
  simp
theorem size_is : sizeLine = 16777216 := (rfl)
end Vi
end Vp2_

section Vr0_
set_option linter.all false
set_option maxRecDepth 100000
/-! # Vr0: data with a Lean type: equality, order -/
namespace Vi
open PySem PySem.Spec PyProof.Rows L2
/-- data that can be compared for equality -/
structure ET (α : Type) where
  inj : α → PyData
  dep : Nat
  plain : ∀ a, (inj a).plain = true
  depth : ∀ a, (inj a).depth ≤ dep
  eqv : ∀ a b, PyData.eqv (inj a) (inj b) = true ↔ a = b
/-- and ordered -/
structure DT (α : Type) extends ET α where
  alike : ∀ a b, PySem.W.alike (inj a) (inj b) = true
  notNone : ∀ a, inj a ≠ .none
theorem ET.plainAll {α : Type} (E : ET α) : ∀ l : List α, PyData.plainAll (l.map E.inj) = true
  | [] => plain_0
  | a :: l => by rw [List.map_cons, plain_c, E.plain, E.plainAll l]; rfl
theorem ET.depthAll {α : Type} (E : ET α) : ∀ l : List α, PyData.depthAll (l.map E.inj) ≤ E.dep + 1
  | [] => by simp [PyData.depthAll]
  | a :: l => by
    have := E.depthAll l
    have := E.depth a
    simp only [List.map_cons, PyData.depthAll]
    omega
theorem ET.eqvAll {α : Type} (E : ET α) : ∀ l m : List α, PyData.eqvAll (l.map E.inj) (m.map E.inj) = true ↔ l = m
  | [], [] => by simp [PyData.eqvAll]
  | [], b :: m => by simp [PyData.eqvAll]
  | a :: l, [] => by simp [PyData.eqvAll]
  | a :: l, b :: m => by simp [PyData.eqvAll, E.eqv, E.eqvAll l m]
theorem ET.eqv_dec {α : Type} [DecidableEq α] (E : ET α) (a b : α) : PyData.eqv (E.inj a) (E.inj b) = decide (a = b) := by
  by_cases h : a = b
  · rw [decide_eq_true h]; exact (E.eqv a b).mpr h
  · rw [decide_eq_false h]
    cases q : PyData.eqv (E.inj a) (E.inj b) with
    | false => rfl
    | true => exact absurd ((E.eqv a b).mp q) h
theorem ET.inj_inj {α : Type} (E : ET α) {a b : α} (h : E.inj a = E.inj b) : a = b := by
  refine (E.eqv a b).mp ?_
  rw [h]
  exact (E.eqv b b).mpr rfl
theorem ET.any_eqv {α : Type} [DecidableEq α] (E : ET α) (a : α) (l : List α) : ((l.map E.inj).any fun y => PyData.eqv y (E.inj a)) = decide (a ∈ l) := by
  rw [List.any_map, Bool.eq_iff_iff, List.any_eq_true, decide_eq_true_eq]
  constructor
  · rintro ⟨x, hx, h⟩
    rw [← (E.eqv x a).mp h]
    exact hx
  · intro h
    exact ⟨a, h, (E.eqv a a).mpr rfl⟩
section
variable {α : Type} [DecidableEq α] (E : ET α) {a b : α} {l m : List α} {h : Hep} {ng : Bool}
theorem ET.eq (hd : E.dep ≤ 60) : dEq (.dat (E.inj a)) (.dat (E.inj b)) h = .ok (.dat (.bool (decide (a = b)))) h := by
  rw [eq_dd (E.plain _) (E.plain _) (by have := E.depth a; omega), E.eqv_dec]
theorem ET.ne (hd : E.dep ≤ 60) : dNe (.dat (E.inj a)) (.dat (E.inj b)) h = .ok (.dat (.bool (!decide (a = b)))) h := by
  rw [ne_dd (E.plain _) (E.plain _) (by have := E.depth a; omega), E.eqv_dec]
theorem ET.in_t (hd : E.dep ≤ 60) : dIn ng (.dat (E.inj a)) (.dat (.tuple (l.map E.inj))) h = .ok (.dat (.bool (ng ^^ decide (a ∈ l)))) h := by
  rw [in_tup (E.plainAll _) (E.plain _) (by have := E.depth a; omega), E.any_eqv]
theorem ET.in_l (hd : E.dep ≤ 60) : dIn ng (.dat (E.inj a)) (.dat (.list (l.map E.inj))) h = .ok (.dat (.bool (ng ^^ decide (a ∈ l)))) h := by
  rw [in_lst (E.plainAll _) (E.plain _) (by have := E.depth a; omega), E.any_eqv]
theorem ET.countP_eqv : (l.map E.inj).countP (fun y => PyData.eqv y (E.inj a)) = l.count a := by
  rw [List.countP_map]
  unfold List.count
  congr 1
  funext x
  show PyData.eqv (E.inj x) (E.inj a) = _
  rw [E.eqv_dec]
  rfl
theorem ET.count_l (hd : E.dep ≤ 60) : fCount (.dat (.list (l.map E.inj))) [.dat (E.inj a)] h = .ok (.dat (.int (l.count a : Nat))) h := by
  unfold fCount
  simp only [toDat, seqD]
  rw [if_pos ⟨E.plainAll _, E.plain _, by have := E.depth a; omega⟩, E.countP_eqv]
  rfl
theorem ET.count_t (hd : E.dep ≤ 60) : fCount (.dat (.tuple (l.map E.inj))) [.dat (E.inj a)] h = .ok (.dat (.int (l.count a : Nat))) h := by
  unfold fCount
  simp only [toDat, seqD]
  rw [if_pos ⟨E.plainAll _, E.plain _, by have := E.depth a; omega⟩, E.countP_eqv]
  rfl
theorem ET.place : SeqAt.dataPlace (l.map E.inj) (E.inj a) = l.findIdx? (fun x => decide (x = a)) := by
  unfold SeqAt.dataPlace
  rw [List.findIdx?_map]
  congr 1
  funext x
  show PyData.eqv (E.inj x) (E.inj a) = _
  rw [E.eqv_dec]
theorem ET.index_l (hd : E.dep ≤ 60) {j : Nat} (hj : l.findIdx? (fun x => decide (x = a)) = some j) : fIndex (.dat (.list (l.map E.inj))) [.dat (E.inj a)] h = .ok (.dat (.int (j : Nat))) h := by
  unfold fIndex
  simp only [toDat, seqD]
  rw [if_pos ⟨E.plainAll _, E.plain _, by have := E.depth a; omega⟩, E.place, hj]
  rfl
theorem ET.index_t (hd : E.dep ≤ 60) {j : Nat} (hj : l.findIdx? (fun x => decide (x = a)) = some j) : fIndex (.dat (.tuple (l.map E.inj))) [.dat (E.inj a)] h = .ok (.dat (.int (j : Nat))) h := by
  unfold fIndex
  simp only [toDat, seqD]
  rw [if_pos ⟨E.plainAll _, E.plain _, by have := E.depth a; omega⟩, E.place, hj]
  rfl
end
/-! ### kinds -/
def dInt : DT Int where
  inj := .int
  dep := 0
  plain a := plain_i
  depth a := by simp
  eqv a b := by simp
  alike a b := alike_ii
  notNone a e := by cases e
def dNat : DT Nat where
  inj n := .int n
  dep := 0
  plain a := plain_i
  depth a := by simp
  eqv a b := by simp; omega
  alike a b := alike_ii
  notNone a e := by cases e
def dStr : DT Str where
  inj := .str
  dep := 0
  plain a := plain_s
  depth a := by simp
  eqv a b := by simp
  alike a b := by simp [PySem.W.alike]
  notNone a e := by cases e
def dBool : DT Bool where
  inj := .bool
  dep := 0
  plain a := plain_b
  depth a := by simp
  eqv a b := by simp
  alike a b := by simp [PySem.W.alike]
  notNone a e := by cases e
def eTup {α : Type} (E : ET α) : ET (List α) where
  inj l := .tuple (l.map E.inj)
  dep := E.dep + 2
  plain l := by rw [plain_t]; exact E.plainAll l
  depth l := by have := E.depthAll l; simp only [PyData.depth]; omega
  eqv a b := by simp only [PyData.eqv]; exact E.eqvAll a b
def eLst {α : Type} (E : ET α) : ET (List α) where
  inj l := .list (l.map E.inj)
  dep := E.dep + 2
  plain l := by rw [plain_l]; exact E.plainAll l
  depth l := by have := E.depthAll l; simp only [PyData.depth]; omega
  eqv a b := by simp only [PyData.eqv]; exact E.eqvAll a b
theorem DT.alikeAll {α : Type} (D : DT α) : ∀ l m : List α, PySem.W.alikeAll (l.map D.inj) (m.map D.inj) = true
  | [], m => by simp [PySem.W.alikeAll]
  | a :: l, [] => by simp [PySem.W.alikeAll]
  | a :: l, b :: m => by simp [PySem.W.alikeAll, D.alike, D.alikeAll l m]
def dTup {α : Type} (D : DT α) : DT (List α) where
  toET := eTup D.toET
  alike a b := by show PySem.W.alike (.tuple _) (.tuple _) = true; simp only [PySem.W.alike]; exact D.alikeAll a b
  notNone a e := by cases e
def dLst {α : Type} (D : DT α) : DT (List α) where
  toET := eLst D.toET
  alike a b := by show PySem.W.alike (.list _) (.list _) = true; simp only [PySem.W.alike]; exact D.alikeAll a b
  notNone a e := by cases e
def e2 {α β : Type} (A : ET α) (B : ET β) : ET (α × β) where
  inj p := .tuple [A.inj p.1, B.inj p.2]
  dep := A.dep + B.dep + 2
  plain p := by simp [A.plain, B.plain]
  depth p := by have := A.depth p.1; have := B.depth p.2; simp only [PyData.depth, PyData.depthAll]; omega
  eqv p q := by
    simp only [PyData.eqv, PyData.eqvAll, Bool.and_eq_true, A.eqv, B.eqv, and_true]
    exact ⟨fun h => Prod.ext h.1 h.2, fun h => by rw [h]; exact ⟨rfl, rfl⟩⟩
def e3 {α β γ : Type} (A : ET α) (B : ET β) (C : ET γ) : ET (α × β × γ) where
  inj p := .tuple [A.inj p.1, B.inj p.2.1, C.inj p.2.2]
  dep := A.dep + B.dep + C.dep + 2
  plain p := by simp [A.plain, B.plain, C.plain]
  depth p := by have := A.depth p.1; have := B.depth p.2.1; have := C.depth p.2.2; simp only [PyData.depth, PyData.depthAll]; omega
  eqv p q := by
    simp only [PyData.eqv, PyData.eqvAll, Bool.and_eq_true, A.eqv, B.eqv, C.eqv, and_true]
    exact ⟨fun h => Prod.ext h.1 (Prod.ext h.2.1 h.2.2), fun h => by rw [h]; exact ⟨rfl, rfl, rfl⟩⟩
def d2 {α β : Type} (A : DT α) (B : DT β) : DT (α × β) where
  toET := e2 A.toET B.toET
  alike p q := by show PySem.W.alike (.tuple _) (.tuple _) = true; simp [PySem.W.alike, PySem.W.alikeAll, A.alike, B.alike]
  notNone a e := by cases e
def d3 {α β γ : Type} (A : DT α) (B : DT β) (C : DT γ) : DT (α × β × γ) where
  toET := e3 A.toET B.toET C.toET
  alike p q := by show PySem.W.alike (.tuple _) (.tuple _) = true; simp [PySem.W.alike, PySem.W.alikeAll, A.alike, B.alike, C.alike]
  notNone a e := by cases e
def eOpt {α : Type} (A : DT α) : ET (Option α) where
  inj | none => .none
      | some a => A.inj a
  dep := A.dep
  plain | none => plain_n
        | some a => A.plain a
  depth | none => by simp
        | some a => A.depth a
  eqv a b := by
    have nn : ∀ d : PyData, d ≠ .none → PyData.eqv d .none = false ∧ PyData.eqv .none d = false := fun d hd => by
      cases d <;> first | exact absurd rfl hd | simp [PyData.eqv]
    cases a with
    | none => cases b with
      | none => simp [PyData.eqv]
      | some b => simp [(nn _ (A.notNone b)).2]
    | some a => cases b with
      | none => simp [(nn _ (A.notNone a)).1]
      | some b => simp [A.eqv]
/-! ### order -/
def DT.lt {α : Type} (D : DT α) (a b : α) : Bool := PySem.W.dataLt (D.inj a) (D.inj b)
section
variable {α : Type} (D : DT α)
theorem DT.lt_irrefl (a : α) : D.lt a a = false := lex_irrefl _
theorem DT.lt_trans {a b c : α} (h : D.lt a b = true) (g : D.lt b c = true) : D.lt a c = true := lex_trans _ _ _ h g
theorem DT.lt_total {a b : α} (h : D.lt a b = false) (g : D.lt b a = false) : a = b := by
  have e : PySem.W.keyToks (D.inj a) = PySem.W.keyToks (D.inj b) := lex_total _ _ h g
  have q := (PySem.W.toks_eqv (D.inj a) (D.inj b) (D.alike a b)).2
  cases z : PyData.eqv (D.inj a) (D.inj b) with
  | true => exact (D.eqv a b).mp z
  | false =>
    have w := q z [] [.inl 0]
    rw [e] at w
    rw [PySem.W.lex_pre, lex_irrefl] at w
    cases w
theorem DT.lt_asymm {a b : α} (h : D.lt a b = true) : D.lt b a = false := by
  cases z : D.lt b a with
  | false => rfl
  | true =>
    have := D.lt_trans h z
    rw [D.lt_irrefl] at this
    cases this
/-- a ≤ b -/
theorem DT.le_trans {a b c : α} (h : D.lt b a = false) (g : D.lt c b = false) : D.lt c a = false := by
  cases z : D.lt c a with
  | false => rfl
  | true =>
    cases w : D.lt b c with
    | true =>
      have := D.lt_trans w z
      rw [h] at this
      cases this
    | false =>
      have := D.lt_total w g
      subst this
      rw [h] at z
      cases z
end
section
variable {α : Type} (D : DT α) {a b : α} {h : Hep}
theorem DT.lt_i (hd : D.dep ≤ 60) : dLt (.dat (D.inj a)) (.dat (D.inj b)) h = .ok (.dat (.bool (D.lt a b))) h := by
  show dOrd false false _ _ _ = _
  rw [ord_dd (D.plain _) (D.plain _) (D.alike _ _) (by cases e : D.inj a <;> first | rfl | exact absurd e (D.notNone a)) (by have := D.depth a; omega)]
  simp [DT.lt]
end
/-- the least of a row that is not empty -/
def DT.minF {α : Type} (D : DT α) (x : α) (xs : List α) : α := xs.foldl (fun a y => if D.lt y a = true then y else a) x
theorem DT.minF_spec {α : Type} (D : DT α) : ∀ (xs : List α) (x : α), (D.minF x xs ∈ x :: xs) ∧ ∀ y ∈ x :: xs, D.lt y (D.minF x xs) = false
  | [], x => ⟨List.mem_cons_self .., fun y hy => by
    rcases List.mem_cons.mp hy with rfl | hy
    · exact D.lt_irrefl _
    · cases hy⟩
  | z :: xs, x => by
    obtain ⟨h1, h2⟩ := D.minF_spec xs (if D.lt z x = true then z else x)
    have e : D.minF x (z :: xs) = D.minF (if D.lt z x = true then z else x) xs := rfl
    rw [e]
    cases c : D.lt z x with
    | true =>
      simp only [c, if_true] at h1 h2 ⊢
      refine ⟨?_, fun y hy => ?_⟩
      · rcases List.mem_cons.mp h1 with h1 | h1
        · rw [h1]; simp
        · exact List.mem_cons_of_mem _ (List.mem_cons_of_mem _ h1)
      · rcases List.mem_cons.mp hy with rfl | hy
        · exact D.le_trans (h2 z (List.mem_cons_self ..)) (D.lt_asymm c)
        · exact h2 y hy
    | false =>
      simp only [c, Bool.false_eq_true, if_false] at h1 h2 ⊢
      refine ⟨?_, fun y hy => ?_⟩
      · rcases List.mem_cons.mp h1 with h1 | h1
        · rw [h1]; simp
        · exact List.mem_cons_of_mem _ (List.mem_cons_of_mem _ h1)
      · rcases List.mem_cons.mp hy with rfl | hy
        · exact h2 y (List.mem_cons_self ..)
        · rcases List.mem_cons.mp hy with rfl | hy
          · exact D.le_trans (h2 x (List.mem_cons_self ..)) c
          · exact h2 y (List.mem_cons_of_mem _ hy)
/-- m is the least of l -/
def DT.IsMin {α : Type} (D : DT α) (m : α) (l : List α) : Prop := m ∈ l ∧ ∀ y ∈ l, D.lt y m = false
def DT.IsMax {α : Type} (D : DT α) (m : α) (l : List α) : Prop := m ∈ l ∧ ∀ y ∈ l, D.lt m y = false
theorem DT.IsMin.uniq {α : Type} {D : DT α} {m n : α} {l k : List α} (a : D.IsMin m l) (b : D.IsMin n k) (h : ∀ x, x ∈ l ↔ x ∈ k) : m = n :=
  D.lt_total (b.2 m ((h m).mp a.1)) (a.2 n ((h n).mpr b.1))
theorem DT.IsMax.uniq {α : Type} {D : DT α} {m n : α} {l k : List α} (a : D.IsMax m l) (b : D.IsMax n k) (h : ∀ x, x ∈ l ↔ x ∈ k) : m = n :=
  D.lt_total (a.2 n ((h n).mpr b.1)) (b.2 m ((h m).mp a.1))
theorem DT.orders {α : Type} (D : DT α) (hd : D.dep ≤ 50) (l : List α) : Orders (l.map D.inj) := by
  refine ⟨D.plainAll l, ⟨fun x hx y hy => ?_, fun x hx => ?_⟩, by have := D.depthAll l; omega⟩
  · obtain ⟨a, _, rfl⟩ := List.mem_map.mp hx
    obtain ⟨b, _, rfl⟩ := List.mem_map.mp hy
    exact D.alike a b
  · obtain ⟨a, _, rfl⟩ := List.mem_map.mp hx
    exact D.notNone a
theorem DT.minD_map {α : Type} (D : DT α) : ∀ (xs : List α) (x : α), PySem.W.minD (D.inj x) (xs.map D.inj) = D.inj (D.minF x xs)
  | [], x => rfl
  | y :: xs, x => by
    have e : D.minF x (y :: xs) = D.minF (if D.lt y x = true then y else x) xs := rfl
    rw [e, ← D.minD_map xs]
    unfold PySem.W.minD
    rw [List.map_cons, List.foldl_cons]
    congr 1
    show (if D.lt y x = true then _ else _) = _
    split <;> rfl
def DT.maxF {α : Type} (D : DT α) (x : α) (xs : List α) : α := xs.foldl (fun a y => if D.lt a y = true then y else a) x
theorem DT.maxF_spec {α : Type} (D : DT α) : ∀ (xs : List α) (x : α), (D.maxF x xs ∈ x :: xs) ∧ ∀ y ∈ x :: xs, D.lt (D.maxF x xs) y = false
  | [], x => ⟨List.mem_cons_self .., fun y hy => by
    rcases List.mem_cons.mp hy with rfl | hy
    · exact D.lt_irrefl _
    · cases hy⟩
  | z :: xs, x => by
    obtain ⟨h1, h2⟩ := D.maxF_spec xs (if D.lt x z = true then z else x)
    have e : D.maxF x (z :: xs) = D.maxF (if D.lt x z = true then z else x) xs := rfl
    rw [e]
    cases c : D.lt x z with
    | true =>
      simp only [c, if_true] at h1 h2 ⊢
      refine ⟨?_, fun y hy => ?_⟩
      · rcases List.mem_cons.mp h1 with h1 | h1
        · rw [h1]; simp
        · exact List.mem_cons_of_mem _ (List.mem_cons_of_mem _ h1)
      · rcases List.mem_cons.mp hy with rfl | hy
        · exact D.le_trans (D.lt_asymm c) (h2 z (List.mem_cons_self ..))
        · exact h2 y hy
    | false =>
      simp only [c, Bool.false_eq_true, if_false] at h1 h2 ⊢
      refine ⟨?_, fun y hy => ?_⟩
      · rcases List.mem_cons.mp h1 with h1 | h1
        · rw [h1]; simp
        · exact List.mem_cons_of_mem _ (List.mem_cons_of_mem _ h1)
      · rcases List.mem_cons.mp hy with rfl | hy
        · exact h2 y (List.mem_cons_self ..)
        · rcases List.mem_cons.mp hy with rfl | hy
          · exact D.le_trans c (h2 x (List.mem_cons_self ..))
          · exact h2 y (List.mem_cons_of_mem _ hy)
theorem DT.maxD_map {α : Type} (D : DT α) : ∀ (xs : List α) (x : α), PySem.W.maxD (D.inj x) (xs.map D.inj) = D.inj (D.maxF x xs)
  | [], x => rfl
  | y :: xs, x => by
    have e : D.maxF x (y :: xs) = D.maxF (if D.lt x y = true then y else x) xs := rfl
    rw [e, ← D.maxD_map xs]
    unfold PySem.W.maxD
    rw [List.map_cons, List.foldl_cons]
    congr 1
    show (if D.lt x y = true then _ else _) = _
    split <;> rfl
section
variable {α : Type} (D : DT α) {l : List α} {h : Hep}
theorem DT.min_l (hd : D.dep ≤ 50) (hl : l ≠ []) : ∃ m, fMin [.dat (.list (l.map D.inj))] h = .ok (.dat (D.inj m)) h ∧ D.IsMin m l := by
  cases l with
  | nil => exact absurd rfl hl
  | cons x xs =>
    refine ⟨D.minF x xs, ?_, D.minF_spec xs x⟩
    unfold fMin
    simp only [toDat, Option.bind_some, itemsD, List.map_cons]
    rw [if_pos (by have := D.orders hd (x :: xs); simpa using this), D.minD_map]
    rfl
theorem DT.min_t (hd : D.dep ≤ 50) (hl : l ≠ []) : ∃ m, fMin [.dat (.tuple (l.map D.inj))] h = .ok (.dat (D.inj m)) h ∧ D.IsMin m l := by
  cases l with
  | nil => exact absurd rfl hl
  | cons x xs =>
    refine ⟨D.minF x xs, ?_, D.minF_spec xs x⟩
    unfold fMin
    simp only [toDat, Option.bind_some, itemsD, List.map_cons]
    rw [if_pos (by have := D.orders hd (x :: xs); simpa using this), D.minD_map]
    rfl
theorem DT.max_l (hd : D.dep ≤ 50) (hl : l ≠ []) : ∃ m, fMax [.dat (.list (l.map D.inj))] h = .ok (.dat (D.inj m)) h ∧ D.IsMax m l := by
  cases l with
  | nil => exact absurd rfl hl
  | cons x xs =>
    refine ⟨D.maxF x xs, ?_, D.maxF_spec xs x⟩
    unfold fMax
    simp only [toDat, Option.bind_some, itemsD, List.map_cons]
    rw [if_pos (by have := D.orders hd (x :: xs); simpa using this), D.maxD_map]
    rfl
theorem DT.max_t (hd : D.dep ≤ 50) (hl : l ≠ []) : ∃ m, fMax [.dat (.tuple (l.map D.inj))] h = .ok (.dat (D.inj m)) h ∧ D.IsMax m l := by
  cases l with
  | nil => exact absurd rfl hl
  | cons x xs =>
    refine ⟨D.maxF x xs, ?_, D.maxF_spec xs x⟩
    unfold fMax
    simp only [toDat, Option.bind_some, itemsD, List.map_cons]
    rw [if_pos (by have := D.orders hd (x :: xs); simpa using this), D.maxD_map]
    rfl
end
/-! ### sorted -/
def DT.Srt {α : Type} (D : DT α) : Prop := (∀ a, ∃ x r, D.inj a = .tuple (x :: r)) ∨ ∀ a, ∀ xs, D.inj a ≠ .tuple xs
def DT.le {α : Type} (D : DT α) (a b : α) : Bool := !D.lt b a
def DT.sort {α : Type} (D : DT α) (l : List α) : List α := l.mergeSort D.le
theorem dataLe_id (p q : PyData) : PySem.W.dataLe false id p q = !PySem.W.dataLt q p := rfl
theorem DT.sort_map {α : Type} (D : DT α) (l : List α) : (l.map D.inj).mergeSort (PySem.W.dataLe false id) = (D.sort l).map D.inj := by
  symm
  exact List.map_mergeSort fun a _ b _ => rfl
section
variable {α : Type} (D : DT α) {l : List α} {h : Hep}
theorem DT.sortable (hs : D.Srt) (l : List α) : PySem.W.Sortable (l.map D.inj) := by
  rcases hs with hs | hs
  · refine .inl fun d hd => ?_
    obtain ⟨a, _, rfl⟩ := List.mem_map.mp hd
    exact hs a
  · refine .inr fun d hd => ?_
    obtain ⟨a, _, rfl⟩ := List.mem_map.mp hd
    exact ⟨D.notNone a, hs a⟩
theorem DT.sorted_l (hd : D.dep ≤ 50) (hs : D.Srt) : fSorted [.dat (.list (l.map D.inj))] h = .ok (.dat (.list ((D.sort l).map D.inj))) h := by
  unfold fSorted
  simp only [toDat, Option.bind_some, itemsD]
  rw [if_pos ⟨D.plainAll l, fun x hx y hy => (D.orders hd l).2.1.1 x hx y hy, D.sortable hs l, by have := D.depthAll l; omega⟩, D.sort_map]
  rfl
theorem DT.sorted_t (hd : D.dep ≤ 50) (hs : D.Srt) : fSorted [.dat (.tuple (l.map D.inj))] h = .ok (.dat (.list ((D.sort l).map D.inj))) h := by
  unfold fSorted
  simp only [toDat, Option.bind_some, itemsD]
  rw [if_pos ⟨D.plainAll l, fun x hx y hy => (D.orders hd l).2.1.1 x hx y hy, D.sortable hs l, by have := D.depthAll l; omega⟩, D.sort_map]
  rfl
theorem DT.le_tot (a b : α) : (D.le a b || D.le b a) = true := by
  unfold DT.le
  cases h : D.lt b a with
  | false => rfl
  | true => rw [D.lt_asymm h]; rfl
theorem DT.le_tr (a b c : α) (h : D.le a b = true) (g : D.le b c = true) : D.le a c = true := by
  unfold DT.le at *
  rw [Bool.not_eq_true'] at *
  exact D.le_trans h g
theorem DT.sort_perm (l : List α) : (D.sort l).Perm l := List.mergeSort_perm l D.le
theorem DT.sort_pw (l : List α) : (D.sort l).Pairwise fun a b => D.le a b = true := List.pairwise_mergeSort (le := D.le) (fun a b c => D.le_tr a b c) (fun a b => D.le_tot a b) l
theorem DT.sort_mem {a : α} (l : List α) : a ∈ D.sort l ↔ a ∈ l := (D.sort_perm l).mem_iff
theorem DT.sort_len (l : List α) : (D.sort l).length = l.length := (D.sort_perm l).length_eq
theorem DT.le_anti {a b : α} (h : D.le a b = true) (g : D.le b a = true) : a = b := by
  unfold DT.le at *
  rw [Bool.not_eq_true'] at *
  exact D.lt_total g h
theorem DT.sort_uniq {l m : List α} (p : l.Perm m) (h : l.Pairwise fun a b => D.le a b = true) : D.sort m = l :=
  List.Perm.eq_of_pairwise (fun a b _ _ h g => D.le_anti h g) (D.sort_pw m) h ((D.sort_perm m).trans p.symm)
end
theorem srt_int : dInt.Srt := .inr fun a xs e => by cases e
theorem srt_nat : dNat.Srt := .inr fun a xs e => by cases e
theorem srt_str : dStr.Srt := .inr fun a xs e => by cases e
theorem srt_2 {α β : Type} (A : DT α) (B : DT β) : (d2 A B).Srt := .inl fun a => ⟨_, _, rfl⟩
theorem srt_3 {α β γ : Type} (A : DT α) (B : DT β) (C : DT γ) : (d3 A B C).Srt := .inl fun a => ⟨_, _, rfl⟩
/-! ### the order, by kinds -/
@[simp] theorem dInt_lt (i j : Int) : dInt.lt i j = decide (i < j) := lt_int i j
@[simp] theorem dNat_lt (i j : Nat) : dNat.lt i j = decide (i < j) := by
  show PySem.W.dataLt (.int i) (.int j) = _
  rw [lt_int]
  simp
theorem d2_lt {α β : Type} [DecidableEq α] (A : DT α) (B : DT β) (p q : α × β) : (d2 A B).lt p q = (A.lt p.1 q.1 || (decide (p.1 = q.1) && B.lt p.2 q.2)) := by
  show PySem.W.dataLt (.tuple [A.inj p.1, B.inj p.2]) (.tuple [A.inj q.1, B.inj q.2]) = _
  rw [PySem.W.dataLt_pair (A.alike _ _) (B.alike _ _), A.eqv_dec]
  by_cases c : p.1 = q.1
  · simp only [c, decide_true, if_true, Bool.true_and]
    rw [A.lt_irrefl, Bool.false_or]
    split
    · rename_i e
      rw [(B.eqv _ _).mp e, B.lt_irrefl]
    · rfl
  · simp [c]
    rfl
theorem dTup_lt_nil {α : Type} (D : DT α) : (dTup D).lt [] [] = false := (dTup D).lt_irrefl []
theorem dTup_lt_nc {α : Type} (D : DT α) (a : α) (l : List α) : (dTup D).lt [] (a :: l) = true := by
  show PySem.W.dataLt (.tuple []) (.tuple (D.inj a :: l.map D.inj)) = true
  rw [PySem.W.dataLt_tuple, PySem.W.toks_all_cons]
  simp only [PySem.W.keyToksAll]
  rw [lex_diff (O := itemOrd) (by simp)]
  rfl
theorem dTup_lt_cn {α : Type} (D : DT α) (a : α) (l : List α) : (dTup D).lt (a :: l) [] = false := (dTup D).lt_asymm (dTup_lt_nc D a l)
theorem dTup_lt_cc {α : Type} [DecidableEq α] (D : DT α) (a b : α) (l m : List α) : (dTup D).lt (a :: l) (b :: m) = (D.lt a b || (decide (a = b) && (dTup D).lt l m)) := by
  show PySem.W.dataLt (.tuple (D.inj a :: l.map D.inj)) (.tuple (D.inj b :: m.map D.inj)) = _
  rw [PySem.W.dataLt_tuple, PySem.W.dataLt_cons (D.alike _ _), D.eqv_dec]
  by_cases c : a = b
  · subst c
    simp only [decide_true, if_true, Bool.true_and]
    rw [D.lt_irrefl, Bool.false_or]
    exact (PySem.W.dataLt_tuple _ _).symm
  · simp [c]
    rfl
end Vi
end Vr0_

section Vr1_
set_option linter.all false
set_option maxRecDepth 100000
/-! # Vr1: sources, comprehensions, loops for automatic use -/
namespace Vi
open PySem PySem.Spec PyProof.Rows L2
section
variable {h : Hep} {xs ys : List PyData} {env : Vi.Env}
@[simp] theorem kEnum_l : kEnum [.dat (.list xs)] h = .ok (.enum (.dat (.list xs)) 0) h := (rfl)
@[simp] theorem kEnum_t : kEnum [.dat (.tuple xs)] h = .ok (.enum (.dat (.tuple xs)) 0) h := (rfl)
@[simp] theorem kZip_ll : kZip [.dat (.list xs), .dat (.list ys)] h = .ok (.zip (.dat (.list xs)) (.dat (.list ys))) h := (rfl)
@[simp] theorem kZip_lt : kZip [.dat (.list xs), .dat (.tuple ys)] h = .ok (.zip (.dat (.list xs)) (.dat (.tuple ys))) h := (rfl)
@[simp] theorem kZip_tl : kZip [.dat (.tuple xs), .dat (.list ys)] h = .ok (.zip (.dat (.tuple xs)) (.dat (.list ys))) h := (rfl)
@[simp] theorem kZip_tt : kZip [.dat (.tuple xs), .dat (.tuple ys)] h = .ok (.zip (.dat (.tuple xs)) (.dat (.tuple ys))) h := (rfl)
theorem kRng1_i {j : Int} (h1 : -(2 ^ 40) ≤ j) (h2 : j ≤ 2 ^ 40) : kRng1 [.dat (.int j)] h = .ok (.rng 0 1 j.toNat) h := by
  unfold kRng1
  simp only
  rw [if_pos ⟨by omega, by omega⟩]
theorem kRng1_n {n : Nat} (h2 : n ≤ 2 ^ 40) : kRng1 [.dat (.int (n : Nat))] h = .ok (.rng 0 1 n) h := by
  rw [kRng1_i (by omega) (by omega)]
  simp
theorem kRng2_i {i j : Int} (h1 : -(2 ^ 40) ≤ i) (h2 : i ≤ 2 ^ 40) (h3 : -(2 ^ 40) ≤ j) (h4 : j ≤ 2 ^ 40) : kRng2 [.dat (.int i), .dat (.int j)] h = .ok (.rng i 1 (j - i).toNat) h := by
  unfold kRng2
  simp only
  rw [if_pos ⟨⟨by omega, by omega⟩, ⟨by omega, by omega⟩⟩]
theorem kLRg1_n {n : Nat} (h2 : n ≤ 2 ^ 20) : kLRg1 [.dat (.int (n : Nat))] h = .ok (.dat (.list ((List.range n).map fun (i : Nat) => .int (i : Nat)))) h := by
  unfold kLRg1
  simp only
  rw [if_pos ⟨⟨by omega, by omega⟩, ⟨by omega, by omega⟩, by omega⟩]
  unfold ok rgD
  simp
theorem kLRgC1_n {n : Nat} (h2 : n ≤ 2 ^ 20) : kLRgC1 [.dat (.int (n : Nat))] h = .ok (.ref h.length) (h ++ [.lst ((List.range n).map fun (i : Nat) => .int (i : Nat))]) := by
  unfold kLRgC1
  simp only
  rw [if_pos ⟨⟨by omega, by omega⟩, ⟨by omega, by omega⟩, by omega⟩]
  unfold rgD
  simp
theorem kLRg2_n {n m : Nat} (h2 : n ≤ 2 ^ 20) (h3 : m ≤ 2 ^ 20) : kLRg2 [.dat (.int (n : Nat)), .dat (.int (m : Nat))] h = .ok (.dat (.list ((List.range (m - n)).map fun (i : Nat) => .int ((n + i : Nat) : Nat)))) h := by
  unfold kLRg2
  simp only
  rw [if_pos ⟨⟨by omega, by omega⟩, ⟨by omega, by omega⟩, by omega⟩]
  unfold ok rgD
  have e : ((m : Int) - (n : Int)).toNat = m - n := by omega
  rw [e]
  simp
@[simp] theorem x_one {k : List Val → Hep → Out Val} {m : ME} : mOne k m env h = (m env h).bind fun v h1 => k [v] h1 := (rfl)
@[simp] theorem x_two {k : List Val → Hep → Out Val} {m m2 : ME} : mTwo k m m2 env h = (m env h).bind fun v h1 => (m2 env h1).bind fun u h2 => k [v, u] h2 := (rfl)
@[simp] theorem x_dead {vs : List Nat} {m : MS} : mDead vs m env h = (m env h).wipe vs := (rfl)
@[simp] theorem wipe_nx {vs : List Nat} : (SOut.nx env h).wipe vs = .nx (wipeE env vs) h := (rfl)
@[simp] theorem wipe_bk {vs : List Nat} : (SOut.bk env h).wipe vs = .bk (wipeE env vs) h := (rfl)
@[simp] theorem wipe_ct {vs : List Nat} : (SOut.ct env h).wipe vs = .ct (wipeE env vs) h := (rfl)
@[simp] theorem wipe_rt {vs : List Nat} {v : Val} : (SOut.rt v h).wipe vs = .rt v h := (rfl)
@[simp] theorem wipe_er {vs : List Nat} {e : Err} : (SOut.er e env h).wipe vs = .er e env h := (rfl)
@[simp] theorem wipe_bad {vs : List Nat} : SOut.bad.wipe vs = .bad := (rfl)
end
@[simp high] theorem cut_mapS {α β : Type} {f : α → β} {l : List α} {lo hi : Option Int} : Vi.cut (l.map f) lo hi = (Vi.cut l lo hi).map f := cut_map
@[simp low] theorem cut_di {α : Type} {l : List α} {i : Int} (hi : 0 ≤ i) : Vi.cut l (some i) none = l.drop i.toNat := by
  have q := cut_drop (l := l) (n := i.toNat)
  rwa [Int.toNat_of_nonneg hi] at q
@[simp low] theorem cut_ti {α : Type} {l : List α} {i : Int} (hi : 0 ≤ i) : Vi.cut l none (some i) = l.take i.toNat := by
  have q := cut_take (l := l) (n := i.toNat)
  rwa [Int.toNat_of_nonneg hi] at q
@[simp low] theorem cut_mi {α : Type} {l : List α} {i j : Int} (hi : 0 ≤ i) (hj : 0 ≤ j) : Vi.cut l (some i) (some j) = (l.drop i.toNat).take (j.toNat - i.toNat) := by
  have q := cut_mid (l := l) (n := i.toNat) (m := j.toNat)
  rwa [Int.toNat_of_nonneg hi, Int.toNat_of_nonneg hj] at q
theorem bcase (b : Bool) : b = true ∨ b = false := by cases b <;> simp
/-! ### sources -/
section
variable {α β : Type}
theorem src_id_t (xs : List PyData) : SrcIs (.of (.dat (.tuple xs))) (xs.map fun d => d) := by simpa using src_tup xs
theorem src_id_l (xs : List PyData) : SrcIs (.of (.dat (.list xs))) (xs.map fun d => d) := by simpa using src_list xs
theorem src_rn (n : Nat) : SrcIs (.rng 0 1 n) ((List.range n).map fun (i : Nat) => .int (i : Nat)) := by
  have q := src_rng 0 1 n
  simpa using q
theorem src_ri (a : Int) (n : Nat) : SrcIs (.rng a 1 n) ((List.range n).map fun (i : Nat) => .int (a + (i : Nat))) := by
  have q := src_rng a 1 n
  simpa using q
theorem enumD_map (inj : α → PyData) (l : List α) : enumD 0 (l.map inj) = l.zipIdx.map fun p => .tuple [.int (p.2 : Nat), inj p.1] := by
  unfold enumD
  rw [List.zipIdx_map, List.map_map]
  apply List.map_congr_left
  intro p _
  simp
theorem src_en_l (inj : α → PyData) (l : List α) : SrcIs (.enum (.dat (.list (l.map inj))) 0) (l.zipIdx.map fun p => .tuple [.int (p.2 : Nat), inj p.1]) := by
  rw [← enumD_map]
  exact src_enum fun _ => rfl
theorem src_en_t (inj : α → PyData) (l : List α) : SrcIs (.enum (.dat (.tuple (l.map inj))) 0) (l.zipIdx.map fun p => .tuple [.int (p.2 : Nat), inj p.1]) := by
  rw [← enumD_map]
  exact src_enum fun _ => rfl
theorem zipD_map (inj : α → PyData) (inj2 : β → PyData) (l : List α) (m : List β) : zipD (l.map inj) (m.map inj2) = (l.zip m).map fun p => .tuple [inj p.1, inj2 p.2] := by
  unfold zipD
  rw [List.zip_map, List.map_map]
  rfl
theorem src_z_ll (inj : α → PyData) (inj2 : β → PyData) (l : List α) (m : List β) : SrcIs (.zip (.dat (.list (l.map inj))) (.dat (.list (m.map inj2)))) ((l.zip m).map fun p => .tuple [inj p.1, inj2 p.2]) := by
  rw [← zipD_map]
  exact src_zip (fun _ => rfl) fun _ => rfl
theorem src_z_lt (inj : α → PyData) (inj2 : β → PyData) (l : List α) (m : List β) : SrcIs (.zip (.dat (.list (l.map inj))) (.dat (.tuple (m.map inj2)))) ((l.zip m).map fun p => .tuple [inj p.1, inj2 p.2]) := by
  rw [← zipD_map]
  exact src_zip (fun _ => rfl) fun _ => rfl
theorem src_z_tl (inj : α → PyData) (inj2 : β → PyData) (l : List α) (m : List β) : SrcIs (.zip (.dat (.tuple (l.map inj))) (.dat (.list (m.map inj2)))) ((l.zip m).map fun p => .tuple [inj p.1, inj2 p.2]) := by
  rw [← zipD_map]
  exact src_zip (fun _ => rfl) fun _ => rfl
theorem src_z_tt (inj : α → PyData) (inj2 : β → PyData) (l : List α) (m : List β) : SrcIs (.zip (.dat (.tuple (l.map inj))) (.dat (.tuple (m.map inj2)))) ((l.zip m).map fun p => .tuple [inj p.1, inj2 p.2]) := by
  rw [← zipD_map]
  exact src_zip (fun _ => rfl) fun _ => rfl
end
/-! ### comprehensions -/
section
variable {α : Type} {inj : α → PyData} {tg : Tgt} {mi : Vi.Env → Hep → Out Src} {mt : Vi.Env → Hep → Out Bool} {me : ME} {vs : List Nat} {env : Vi.Env} {h : Hep} {s : Src} {l : List α} {p : α → Bool} {f : α → PyData}
/-- [f for a in l] -/
theorem lc_y (hi : mi env h = .ok s h) (hs : SrcIs s (l.map inj)) (hz : l.length ≤ sizeLine) (hx : ∀ a ∈ l, ∃ env1, asgT tg (.dat (inj a)) (wipeE env vs) = some env1 ∧ ∀ g, me env1 g = .ok (.dat (f a)) g) :
    mLc .data tg mi mYes me vs env h = .ok (.dat (.list (l.map f))) h := lc_ofy f hs hz hi hx
/-- [f for a in l if p] -/
theorem lc_p (hi : mi env h = .ok s h) (hs : SrcIs s (l.map inj)) (hz : l.length ≤ sizeLine) (ht : ∀ a ∈ l, ∃ env1, asgT tg (.dat (inj a)) (wipeE env vs) = some env1 ∧ ∀ g, mt env1 g = .ok (p a) g)
    (hx : ∀ a ∈ l, p a = true → ∃ env1, asgT tg (.dat (inj a)) (wipeE env vs) = some env1 ∧ ∀ g, me env1 g = .ok (.dat (f a)) g) :
    mLc .data tg mi mt me vs env h = .ok (.dat (.list ((l.filter p).map f))) h := lc_of p f hs hz hi fun a ha => by
  obtain ⟨e1, x1, y1⟩ := ht a ha
  refine ⟨e1, x1, fun g => ⟨y1 g, fun hp => ?_⟩⟩
  obtain ⟨e2, x2, y2⟩ := hx a ha hp
  rw [x1] at x2
  cases x2
  exact y2 g
end
/-! ### built-ins over typed rows -/
section
variable {α : Type} {l : List α} {h : Hep}
@[simp] theorem all_mapS (p : α → Bool) (l : List α) : fAll [.dat (.list (l.map fun a => .bool (p a)))] h = .ok (.dat (.bool (l.all p))) h := all_map p l
theorem any_map (p : α → Bool) (l : List α) : fAny [.dat (.list (l.map fun a => .bool (p a)))] h = .ok (.dat (.bool (l.any p))) h := by
  unfold fAny
  simp only [toDat, Option.bind, boolsD_map]
  simp [List.any_map, Function.comp_def]
theorem sum_map (p : α → Int) (l : List α) : fSum [.dat (.list (l.map fun a => .int (p a)))] h = .ok (.dat (.int (l.map p).sum)) h := sum_of (p := p) fun _ _ => rfl
def maxI : List Int → Int
  | [] => 0
  | x :: xs => dInt.maxF x xs
def minI : List Int → Int
  | [] => 0
  | x :: xs => dInt.minF x xs
theorem maxI_spec {l : List Int} (hl : l ≠ []) : maxI l ∈ l ∧ ∀ y ∈ l, y ≤ maxI l := by
  cases l with
  | nil => exact absurd rfl hl
  | cons x xs =>
    obtain ⟨a, b⟩ := dInt.maxF_spec xs x
    refine ⟨a, fun y hy => ?_⟩
    have := b y hy
    simp at this
    exact this
theorem minI_spec {l : List Int} (hl : l ≠ []) : minI l ∈ l ∧ ∀ y ∈ l, minI l ≤ y := by
  cases l with
  | nil => exact absurd rfl hl
  | cons x xs =>
    obtain ⟨a, b⟩ := dInt.minF_spec xs x
    refine ⟨a, fun y hy => ?_⟩
    have := b y hy
    simp at this
    exact this
theorem max_map (p : α → Int) {l : List α} (hl : l ≠ []) : fMax [.dat (.list (l.map fun a => .int (p a)))] h = .ok (.dat (.int (maxI (l.map p)))) h := by
  cases l with
  | nil => exact absurd rfl hl
  | cons x xs =>
    have q := dInt.maxD_map (xs.map p) (p x)
    have o := dInt.orders (by decide) ((x :: xs).map p)
    rw [List.map_map] at q o
    unfold fMax
    simp only [toDat, Option.bind_some, itemsD, List.map_cons]
    rw [if_pos (by simpa [Function.comp_def, dInt] using o)]
    show Out.ok (Val.dat (PySem.W.maxD (dInt.inj (p x)) (xs.map (dInt.inj ∘ p)))) h = _
    rw [q]
    rfl
theorem min_map (p : α → Int) {l : List α} (hl : l ≠ []) : fMin [.dat (.list (l.map fun a => .int (p a)))] h = .ok (.dat (.int (minI (l.map p)))) h := by
  cases l with
  | nil => exact absurd rfl hl
  | cons x xs =>
    have q := dInt.minD_map (xs.map p) (p x)
    have o := dInt.orders (by decide) ((x :: xs).map p)
    rw [List.map_map] at q o
    unfold fMin
    simp only [toDat, Option.bind_some, itemsD, List.map_cons]
    rw [if_pos (by simpa [Function.comp_def, dInt] using o)]
    show Out.ok (Val.dat (PySem.W.minD (dInt.inj (p x)) (xs.map (dInt.inj ∘ p)))) h = _
    rw [q]
    rfl
@[simp] theorem min_ii {i j : Int} : fMin [.dat (.int i), .dat (.int j)] h = .ok (.dat (.int (if j < i then j else i))) h := (rfl)
@[simp] theorem max_ii {i j : Int} : fMax [.dat (.int i), .dat (.int j)] h = .ok (.dat (.int (if j > i then j else i))) h := (rfl)
/-- an item by its place -/
theorem ix_tm {inj : α → PyData} {n : Nat} {a : α} (hn : l[n]? = some a) : dIx (.dat (.tuple (l.map inj))) (.dat (.int (n : Nat))) h = .ok (.dat (inj a)) h := by
  obtain ⟨hl, e⟩ := List.getElem?_eq_some_iff.mp hn
  rw [ix_t, atI_nat (by simpa using hl)]
  simp [e]
theorem ix_lm {inj : α → PyData} {n : Nat} {a : α} (hn : l[n]? = some a) : dIx (.dat (.list (l.map inj))) (.dat (.int (n : Nat))) h = .ok (.dat (inj a)) h := by
  obtain ⟨hl, e⟩ := List.getElem?_eq_some_iff.mp hn
  rw [ix_l, atI_nat (by simpa using hl)]
  simp [e]
theorem get_d [Inhabited α] {n : Nat} (hn : n < l.length) : l[n]? = some (l.getD n default) := by
  rw [List.getElem?_eq_getElem hn, List.getD_eq_getElem?_getD, List.getElem?_eq_getElem hn]
  rfl
end
/-! ### two generators -/
section
variable {α β : Type} {inj : α → PyData} {inj1 : α → β → PyData} {tg tg1 : Tgt} {mi mi1 : Vi.Env → Hep → Out Src} {mt mt1 : Vi.Env → Hep → Out Bool} {me : ME} {vs vs1 : List Nat} {env : Vi.Env} {h : Hep} {s : Src} {l : List α} {m : α → List β} {p1 : α → β → Bool} {f : α → β → PyData}
theorem lc2Go_is {xs : List PyData} (hs : SrcIs s xs) {g : List PyData → Hep → Out Unit} (g0 : ∀ h, g [] h = .ok () h) {n : Nat}
    (gs : ∀ d ds h, g (d :: ds) h = match asgT tg (.dat d) env with
      | none => .bad
      | some env1 => (mt env1 h).noEr.bind fun k h1 => if k = true then (mi1 env1 h1).noEr.bind fun s1 h2 => (steps .bad fun f1 => lcGo tg1 mt1 me n s1 (wipeE env1 vs1) f1 0 h2).bind fun _ h3 => g ds h3
        else g ds h1) : ∀ (f i : Nat) (h : Hep), i ≤ xs.length → lc2Go tg mt tg1 mi1 mt1 me vs1 n s env f i h = .bad ∨ lc2Go tg mt tg1 mi1 mt1 me vs1 n s env f i h = g (xs.drop i) h
  | 0, i, h, _ => .inl rfl
  | f + 1, i, h, hi => by
    unfold lc2Go
    rw [hs]
    by_cases hlt : i < xs.length
    · rw [nxt_at (by simpa using hlt), List.drop_eq_getElem_cons hlt, gs]
      simp only [List.getElem_map]
      cases asgT tg (.dat xs[i]) env with
      | none => exact .inl rfl
      | some env1 =>
        simp only
        cases (mt env1 h).noEr with
        | bad => exact .inl rfl
        | er e h2 => exact .inr rfl
        | ok k h1 =>
          simp only [bind_ok]
          cases k with
          | false => simpa using lc2Go_is hs g0 gs f (i + 1) h1 hlt
          | true =>
            simp only [if_true]
            cases (mi1 env1 h1).noEr with
            | bad => exact .inl rfl
            | er e h2 => exact .inr rfl
            | ok s1 h2 =>
              simp only [bind_ok]
              cases steps .bad fun f1 => lcGo tg1 mt1 me n s1 (wipeE env1 vs1) f1 0 h2 with
              | bad => exact .inl rfl
              | er e h3 => exact .inr rfl
              | ok u h3 => exact lc2Go_is hs g0 gs f (i + 1) h3 hlt
    · have e : i = xs.length := by omega
      subst e
      have hz : nxt (xs.map Val.dat) xs.length = some none := by
        have := nxt_len (l := xs.map Val.dat)
        rwa [List.length_map] at this
      rw [hz, List.drop_length, g0]
      exact .inr rfl
theorem lc2Go_all {xs : List PyData} (hs : SrcIs s xs) {g : List PyData → Hep → Out Unit} (g0 : ∀ h, g [] h = .ok () h) {n : Nat}
    (gs : ∀ d ds h, g (d :: ds) h = match asgT tg (.dat d) env with
      | none => .bad
      | some env1 => (mt env1 h).noEr.bind fun k h1 => if k = true then (mi1 env1 h1).noEr.bind fun s1 h2 => (steps .bad fun f1 => lcGo tg1 mt1 me n s1 (wipeE env1 vs1) f1 0 h2).bind fun _ h3 => g ds h3
        else g ds h1) : ∀ (k i : Nat) (h : Hep), i + k = xs.length → lc2Go tg mt tg1 mi1 mt1 me vs1 n s env (k + 1) i h = g (xs.drop i) h
  | 0, i, h, e => by
    have e : i = xs.length := by omega
    subst e
    have hz : nxt (xs.map Val.dat) xs.length = some none := by
      have := nxt_len (l := xs.map Val.dat)
      rwa [List.length_map] at this
    unfold lc2Go
    rw [hs, hz, List.drop_length, g0]
  | k + 1, i, h, e => by
    have hlt : i < xs.length := by omega
    unfold lc2Go
    rw [hs, nxt_at (by simpa using hlt), List.drop_eq_getElem_cons hlt, gs]
    simp only [List.getElem_map]
    cases asgT tg (.dat xs[i]) env with
    | none => rfl
    | some env1 =>
      simp only
      cases (mt env1 h).noEr with
      | bad => rfl
      | er e h2 => rfl
      | ok k' h1 =>
        simp only [bind_ok]
        cases k' with
        | false => simpa using lc2Go_all hs g0 gs k (i + 1) h1 (by omega)
        | true =>
          simp only [if_true]
          cases (mi1 env1 h1).noEr with
          | bad => rfl
          | er e h2 => rfl
          | ok s1 h2 =>
            simp only [bind_ok]
            cases steps .bad fun f1 => lcGo tg1 mt1 me n s1 (wipeE env1 vs1) f1 0 h2 with
            | bad => rfl
            | er e h3 => rfl
            | ok u h3 => exact lc2Go_all hs g0 gs k (i + 1) h3 (by omega)
theorem lcGo_run {xs : List PyData} (hs : SrcIs s xs) {n : Nat} {h : Hep} : steps .bad (fun f => lcGo tg mt me n s env f 0 h) = lcL tg mt me n env xs h := by
  refine steps_all (fun f => ?_) ⟨xs.length + 1, ?_⟩
  · simpa using lcGo_is hs f 0 _ (Nat.zero_le _)
  · simpa using lcGo_all hs xs.length 0 _ (by omega)
noncomputable def lc2L (tg : Tgt) (mt : Vi.Env → Hep → Out Bool) (tg1 : Tgt) (mi1 : Vi.Env → Hep → Out Src) (mt1 : Vi.Env → Hep → Out Bool) (me : ME) (vs1 : List Nat) (n : Nat) (env : Vi.Env) : List PyData → Hep → Out Unit
  | [], h => .ok () h
  | d :: ds, h => match asgT tg (.dat d) env with
      | none => .bad
      | some env1 => (mt env1 h).noEr.bind fun k h1 => if k = true then (mi1 env1 h1).noEr.bind fun s1 h2 => (steps .bad fun f1 => lcGo tg1 mt1 me n s1 (wipeE env1 vs1) f1 0 h2).bind fun _ h3 => lc2L tg mt tg1 mi1 mt1 me vs1 n env ds h3
        else lc2L tg mt tg1 mi1 mt1 me vs1 n env ds h1
theorem lc2L_of {env : Vi.Env} {h : Hep} : ∀ {l : List α} (acc : List PyData), acc.length + (l.map fun a => (m a).length).sum ≤ sizeLine →
    (∀ a ∈ l, ∃ env1, asgT tg (.dat (inj a)) env = some env1 ∧ (∃ s1, (∀ g, mi1 env1 g = .ok s1 g) ∧ SrcIs s1 ((m a).map (inj1 a))) ∧
      ∀ b ∈ m a, ∃ env2, asgT tg1 (.dat (inj1 a b)) (wipeE env1 vs1) = some env2 ∧ ∀ g, mt1 env2 g = .ok (p1 a b) g ∧ (p1 a b = true → me env2 g = .ok (.dat (f a b)) g)) →
    lc2L tg mYes tg1 mi1 mt1 me vs1 h.length env (l.map inj) (h ++ [.lst acc]) = .ok () (h ++ [.lst (acc ++ l.flatMap fun a => ((m a).filter (p1 a)).map (f a))])
  | [], acc, _, _ => by simp [lc2L]
  | a :: l, acc, hz, hx => by
    obtain ⟨env1, e1, ⟨s1, e2, e3⟩, e4⟩ := hx a (List.mem_cons_self ..)
    simp only [List.map_cons, List.sum_cons] at hz
    have q := lcL_of (inj := inj1 a) (tg := tg1) (mt := mt1) (me := me) (env := wipeE env1 vs1) (h := h) (p := p1 a) (f := f a) (l := m a) acc (by omega) e4
    rw [List.map_cons, lc2L, e1]
    simp only [x_yes, Out.noEr_ok, bind_ok, if_true, e2]
    rw [lcGo_run e3, q, bind_ok, lc2L_of (acc ++ ((m a).filter (p1 a)).map (f a)) (by
      have := List.length_filter_le (p1 a) (m a)
      simp only [List.length_append, List.length_map]
      omega) fun x hx' => hx x (List.mem_cons_of_mem _ hx')]
    simp
theorem lc2_p (hi : mi env h = .ok s h) (hs : SrcIs s (l.map inj)) (hz : (l.map fun a => (m a).length).sum ≤ sizeLine)
    (hx : ∀ a ∈ l, ∃ env1, asgT tg (.dat (inj a)) (wipeE env vs) = some env1 ∧ (∃ s1, (∀ g, mi1 env1 g = .ok s1 g) ∧ SrcIs s1 ((m a).map (inj1 a))) ∧
      ∀ b ∈ m a, ∃ env2, asgT tg1 (.dat (inj1 a b)) (wipeE env1 vs1) = some env2 ∧ ∀ g, mt1 env2 g = .ok (p1 a b) g ∧ (p1 a b = true → me env2 g = .ok (.dat (f a b)) g)) :
    mLc2 .data tg mi mYes tg1 mi1 mt1 me vs vs1 env h = .ok (.dat (.list (l.flatMap fun a => ((m a).filter (p1 a)).map (f a)))) h := by
  unfold mLc2
  rw [hi, bind_ok]
  have q := lc2L_of (h := h) (tg := tg) (tg1 := tg1) (mi1 := mi1) (mt1 := mt1) (me := me) (vs1 := vs1) (env := wipeE env vs) (f := f) (l := l) [] (by simpa using hz) hx
  rw [List.nil_append] at q
  have e : steps .bad (fun f => lc2Go tg mYes tg1 mi1 mt1 me vs1 h.length s (wipeE env vs) f 0 (h ++ [Mode.data.init])) = lc2L tg mYes tg1 mi1 mt1 me vs1 h.length (wipeE env vs) (l.map inj) (h ++ [Mode.data.init]) := by
    refine steps_all (fun f => ?_) ⟨(l.map inj).length + 1, ?_⟩
    · simpa using lc2Go_is hs (g := lc2L tg mYes tg1 mi1 mt1 me vs1 h.length (wipeE env vs)) (fun _ => rfl) (fun _ _ _ => rfl) f 0 _ (Nat.zero_le _)
    · simpa using lc2Go_all hs (g := lc2L tg mYes tg1 mi1 mt1 me vs1 h.length (wipeE env vs)) (fun _ => rfl) (fun _ _ _ => rfl) (l.map inj).length 0 _ (by omega)
  rw [e, show (h ++ [Mode.data.init] : Hep) = h ++ [.lst []] from rfl, q, bind_ok]
  exact lcEnd_data
theorem lc2_y (hi : mi env h = .ok s h) (hs : SrcIs s (l.map inj)) (hz : (l.map fun a => (m a).length).sum ≤ sizeLine)
    (hx : ∀ a ∈ l, ∃ env1, asgT tg (.dat (inj a)) (wipeE env vs) = some env1 ∧ (∃ s1, (∀ g, mi1 env1 g = .ok s1 g) ∧ SrcIs s1 ((m a).map (inj1 a))) ∧
      ∀ b ∈ m a, ∃ env2, asgT tg1 (.dat (inj1 a b)) (wipeE env1 vs1) = some env2 ∧ ∀ g, me env2 g = .ok (.dat (f a b)) g) :
    mLc2 .data tg mi mYes tg1 mi1 mYes me vs vs1 env h = .ok (.dat (.list (l.flatMap fun a => (m a).map (f a)))) h := by
  rw [lc2_p (p1 := fun _ _ => true) hi hs hz fun a ha => by
    obtain ⟨env1, e1, e2, e3⟩ := hx a ha
    refine ⟨env1, e1, e2, fun b hb => ?_⟩
    obtain ⟨env2, e4, e5⟩ := e3 b hb
    exact ⟨env2, e4, fun g => ⟨rfl, fun _ => e5 g⟩⟩]
  simp only [filter_yes]
end
section
variable {α : Type} {inj : α → PyData} {tg : Tgt} {mi : Vi.Env → Hep → Out Src} {env : Vi.Env} {h : Hep} {s : Src} {l : List α} {p : α → Bool}
/-! ### loops over what stands still -/
variable {b : MS} {h1 : Hep}
/-- a search: the first turn that hands back does it -/
theorem forL_any {v : Val} (hx : ∀ a ∈ l, ∃ env1, asgT tg (.dat (inj a)) env = some env1 ∧ b env1 h = if p a = true then .rt v h else .nx env h) :
    forL tg b (l.map inj) env h = if l.any p = true then .rt v h else .nx env h := by
  induction l with
  | nil => rfl
  | cons a l ih =>
    obtain ⟨env1, e1, e2⟩ := hx a (List.mem_cons_self ..)
    rw [List.map_cons, forL, e1]
    simp only [e2, List.any_cons]
    by_cases q : p a = true
    · rw [if_pos q]
      simp [q]
    · rw [if_neg q]
      simp only [turn_nx]
      rw [ih fun x hx' => hx x (List.mem_cons_of_mem _ hx')]
      simp [q]
theorem for_any {v : Val} (hi : mi env h = .ok s h) (hs : SrcIs s (l.map inj)) (hx : ∀ a ∈ l, ∃ env1, asgT tg (.dat (inj a)) env = some env1 ∧ b env1 h = if p a = true then .rt v h else .nx env h) :
    mFor tg mi b env h = if l.any p = true then .rt v h else .nx env h := by
  rw [mFor_is hi hs]
  exact forL_any hx
/-- a fold: the state st stands in the env and the heap as rep tells -/
theorem forL_fold {σ : Type} (rep : σ → Vi.Env × Hep) (step : σ → α → σ) (inv : σ → Prop) (hx : ∀ a ∈ l, ∀ st, inv st → ∃ env1, asgT tg (.dat (inj a)) (rep st).1 = some env1 ∧ (b env1 (rep st).2 = .nx (rep (step st a)).1 (rep (step st a)).2 ∨ b env1 (rep st).2 = .ct (rep (step st a)).1 (rep (step st a)).2) ∧ inv (step st a)) :
    ∀ st, inv st → forL tg b (l.map inj) (rep st).1 (rep st).2 = .nx (rep (l.foldl step st)).1 (rep (l.foldl step st)).2 ∧ inv (l.foldl step st) := by
  induction l with
  | nil => exact fun st hi => ⟨rfl, hi⟩
  | cons a l ih =>
    intro st hi
    obtain ⟨env1, e1, e2, hi2⟩ := hx a (List.mem_cons_self ..) st hi
    have q := ih (fun x hx' => hx x (List.mem_cons_of_mem _ hx')) (step st a) hi2
    rw [List.map_cons, forL, e1, List.foldl_cons]
    simp only
    rcases e2 with e2 | e2
    · rw [e2, turn_nx]; exact q
    · rw [e2, turn_ct]; exact q
theorem putC_c {acc : List PyData} {d : PyData} (hz : acc.length < sizeLine) : fAppend (.ref h.length) [.dat d] (h ++ [.lst acc]) = .ok (.dat .none) (h ++ [.lst (acc ++ [d])]) := by
  unfold fAppend
  have e : (h ++ [Cell.lst acc])[h.length]? = some (.lst acc) := by simp
  simp only [e]
  rw [if_pos hz]
  simp [List.set_append_right]
theorem ext_l {acc ys : List PyData} (hz : acc.length + ys.length ≤ sizeLine) : fExtend (.ref h.length) [.dat (.list ys)] (h ++ [.lst acc]) = .ok (.dat .none) (h ++ [.lst (acc ++ ys)]) := by
  unfold fExtend
  have e : (h ++ [Cell.lst acc])[h.length]? = some (.lst acc) := by simp
  simp only [e, toTrk, toDat]
  rw [if_pos hz]
  simp [List.set_append_right]
@[simp] theorem tyC_e {acc : List PyData} : tyC (h ++ [.lst acc]) (.ref h.length) = some "list" := by
  unfold tyC
  simp
end
end Vi
end Vr1_

section Vr2_
set_option linter.all false
set_option maxRecDepth 100000
/-! # Vr2: the hand of a law: cells, place, rest, mix, how many -/
namespace Vi
open PySem PySem.Spec PyProof.Rows L2
def handC (cells : List Int) (a b c e : Int) : Cell := .lst [.list (cells.map .int), .int a, .int b, .int c, .int e]
def Hd (x : Cell) : Prop := ∃ (cells : List Int) (a : Nat) (b c e : Int), x = handC cells a b c e ∧ 0 ≤ b
theorem hd_closed : ∀ c, Hd c → c.closed 0 := by
  rintro c ⟨_, _, _, _, _, rfl, _⟩
  trivial
section
variable {cells : List Int} {a b c e : Int} {cs : Hep} {d : PyData}
@[simp] theorem h_ix0 : dIx (.ref 0) (.dat (.int 0)) (handC cells a b c e :: cs) = .ok (.dat (.list (cells.map .int))) (handC cells a b c e :: cs) := (rfl)
@[simp] theorem h_ix1 : dIx (.ref 0) (.dat (.int 1)) (handC cells a b c e :: cs) = .ok (.dat (.int a)) (handC cells a b c e :: cs) := (rfl)
@[simp] theorem h_ix2 : dIx (.ref 0) (.dat (.int 2)) (handC cells a b c e :: cs) = .ok (.dat (.int b)) (handC cells a b c e :: cs) := (rfl)
@[simp] theorem h_ix3 : dIx (.ref 0) (.dat (.int 3)) (handC cells a b c e :: cs) = .ok (.dat (.int c)) (handC cells a b c e :: cs) := (rfl)
@[simp] theorem h_ix4 : dIx (.ref 0) (.dat (.int 4)) (handC cells a b c e :: cs) = .ok (.dat (.int e)) (handC cells a b c e :: cs) := (rfl)
@[simp] theorem h_st1 {i : Int} : kSub (.ref 0) (.dat (.int 1)) (.dat (.int i)) (handC cells a b c e :: cs) = some (handC cells i b c e :: cs) := (rfl)
@[simp] theorem h_st2 {i : Int} : kSub (.ref 0) (.dat (.int 2)) (.dat (.int i)) (handC cells a b c e :: cs) = some (handC cells a i c e :: cs) := (rfl)
@[simp] theorem h_st3 {i : Int} : kSub (.ref 0) (.dat (.int 3)) (.dat (.int i)) (handC cells a b c e :: cs) = some (handC cells a b i e :: cs) := (rfl)
@[simp] theorem h_st4 {i : Int} : kSub (.ref 0) (.dat (.int 4)) (.dat (.int i)) (handC cells a b c e :: cs) = some (handC cells a b c i :: cs) := (rfl)
end
/-- what ends a def that drew -/
theorem leave_dr {c c' : Cell} {cs ds : Hep} {d : PyData} (a : Hd c') (b : Flat cs) : leave (c :: cs) (.dat d) (c' :: (cs ++ ds)) = .ok (.dat d) (c' :: cs) := leave_hd hd_closed a b
theorem leave_dr0 {c c' : Cell} {cs : Hep} {d : PyData} (a : Hd c') (b : Flat cs) : leave (c :: cs) (.dat d) (c' :: cs) = .ok (.dat d) (c' :: cs) := leave_hd0 hd_closed a b
theorem flat_x {cs ds : Hep} (a : Flat cs) (b : Flat ds) : Flat (cs ++ ds) := fun x hx => by
  rcases List.mem_append.mp hx with hx | hx
  · exact a x hx
  · exact b x hx
theorem flat_l {cs : Hep} {xs : List PyData} (a : Flat cs) : Flat (.lst xs :: cs) := fun x hx => by
  rcases List.mem_cons.mp hx with rfl | hx
  · trivial
  · exact a x hx
theorem flat_d {cs : Hep} (a : Flat cs) : Flat (.dead :: cs) := fun x hx => by
  rcases List.mem_cons.mp hx with rfl | hx
  · trivial
  · exact a x hx
theorem flat_h {c : Cell} {cs : Hep} (a : Hd c) (b : Flat cs) : Flat (c :: cs) := flat_c hd_closed a b
/-- drawn things of a comprehension: each as Q says -/
theorem lc_drawn {Q : PyData → Prop} {tg : Tgt} {mi : Vi.Env → Hep → Out Src} {me : ME} {wv : List Nat} {env : Vi.Env} {h : Hep} {s : Src} {l : List PyData} {c : Cell} {cs : Hep} (hi : mi env h = .ok s (c :: cs)) (hs : SrcIs s l) (hz : l.length ≤ sizeLine) (hc : Hd c) (hf : Flat cs)
    (hx : ∀ d ∈ l, ∃ env1, asgT tg (.dat d) (wipeE env wv) = some env1 ∧ Dr Hd (me env1) Q) :
    ∃ c' vs, mLc .data tg mi mYes me wv env h = .ok (.dat (.list vs)) (c' :: cs) ∧ Hd c' ∧ vs.length = l.length ∧ ∀ v ∈ vs, Q v := lc_dr hd_closed hi hs hz hc hf hx
/-- things that are each as f of something -/
theorem all_as {α : Type} {P : α → Prop} {f : α → PyData} : ∀ vs : List PyData, (∀ v ∈ vs, ∃ a, v = f a ∧ P a) → ∃ as : List α, vs = as.map f ∧ as.length = vs.length ∧ ∀ a ∈ as, P a
  | [], _ => ⟨[], rfl, rfl, fun a ha => by cases ha⟩
  | v :: vs, h => by
    obtain ⟨a, rfl, ha⟩ := h v (List.mem_cons_self ..)
    obtain ⟨as, e, hl, hp⟩ := all_as vs fun w hw => h w (List.mem_cons_of_mem _ hw)
    refine ⟨a :: as, by rw [e]; rfl, by simp [hl], fun b hb => ?_⟩
    rcases List.mem_cons.mp hb with rfl | hb
    · exact ha
    · exact hp b hb
/-- not too long -/
def shortB : PyData → Bool
  | .tuple xs => decide (xs.length ≤ 1000)
  | .list xs => decide (xs.length ≤ 1000)
  | _ => true
/-- equal data of a known depth: what a law's own equality asks -/
def okd : Nat → PyData → Bool
  | 0, _ => false
  | k + 1, .tuple xs => decide (xs.length ≤ 1000) && xs.all (okd k)
  | k + 1, .list xs => decide (xs.length ≤ 1000) && xs.all (okd k)
  | _ + 1, .dict _ => false
  | _ + 1, _ => true
theorem all_true {α : Type} (l : List α) (h : Hep) : fAll [.dat (.list (l.map fun _ => .bool true))] h = .ok (.dat (.bool true)) h := by
  rw [all_of (p := fun _ => true) (fun _ _ => rfl)]
  simp
/-! ### errors in a def that got a lambda -/
theorem isE_is {kn : Str → Str → Option Bool} {y : Str} {x : Str} {b : Bool} {h : Hep} (e : kn x y = some b) : kIsE kn y (.exc ⟨x, none⟩) h = .ok (.dat (.bool b)) h := by
  unfold kIsE
  simp only
  rw [e]
  rfl
theorem count_b {l : List Bool} {b : Bool} {h : Hep} : fCount (.dat (.list (l.map .bool))) [.dat (.bool b)] h = .ok (.dat (.int (l.count b : Nat))) h := dBool.toET.count_l (by decide)
theorem index_b {l : List Bool} {b : Bool} {j : Nat} {h : Hep} (hj : l.findIdx? (fun x => decide (x = b)) = some j) : fIndex (.dat (.list (l.map .bool))) [.dat (.bool b)] h = .ok (.dat (.int (j : Nat))) h := dBool.toET.index_l (by decide) hj
/-- words gathered in a list, compared with the words that are due -/
theorem ne_words {g : Hep} {acc : List Str} : dNe (.ref g.length) (.dat (.list (acc.map .str))) (g ++ [.lst (acc.map .str)]) = .ok (.dat (.bool false)) (g ++ [.lst (acc.map .str)]) := by
  have e : (g ++ [Cell.lst (acc.map PyData.str)])[g.length]? = some (.lst (acc.map .str)) := by simp
  have q : dNe (.ref g.length) (.dat (.list (acc.map .str))) (g ++ [.lst (acc.map .str)]) = dNe (.dat (.list (acc.map .str))) (.dat (.list (acc.map .str))) (g ++ [.lst (acc.map .str)]) := by
    unfold dNe
    simp only [toDat, e]
  rw [q]
  have z := (eLst dStr.toET).ne (a := acc) (b := acc) (h := g ++ [.lst (acc.map .str)]) (by decide)
  simp only [decide_true, Bool.not_true] at z
  exact z
end Vi
end Vr2_

section Vr3_
set_option linter.all false
set_option maxRecDepth 100000
/-! # Vr3: loops that gather in a cell -/
namespace Vi
open PySem PySem.Spec PyProof.Rows L2
@[simp] theorem toDat_e {h : Hep} {xs : List PyData} : toDat (h ++ [.lst xs]) (.ref h.length) = some (.list xs) := by
  unfold toDat
  simp
@[simp] theorem toDat_d {h : Hep} {d : PyData} : toDat h (.dat d) = some d := (rfl)
section
variable {α : Type} {inj : α → PyData} {tg : Tgt} {b : MS} {env : Vi.Env} {h : Hep} {l : List α} {p : α → Bool} {f : α → List PyData} {v : Val}
/-- each turn adds f a to the last cell, or hands v back -/
theorem forL_gather (hx : ∀ a ∈ l, ∀ acc : List PyData, acc.length + (f a).length ≤ sizeLine → ∃ env1, asgT tg (.dat (inj a)) env = some env1 ∧ b env1 (h ++ [.lst acc]) = if p a = true then .nx env (h ++ [.lst (acc ++ f a)]) else .rt v (h ++ [.lst acc])) :
    ∀ acc : List PyData, acc.length + (l.map fun a => (f a).length).sum ≤ sizeLine →
    (l.all p = true → forL tg b (l.map inj) env (h ++ [.lst acc]) = .nx env (h ++ [.lst (acc ++ l.flatMap f)])) ∧ (l.all p = false → ∃ acc', forL tg b (l.map inj) env (h ++ [.lst acc]) = .rt v (h ++ [.lst acc'])) := by
  induction l with
  | nil => exact fun acc _ => ⟨fun _ => by simp [forL], fun z => by cases z⟩
  | cons a l ih =>
    intro acc hz
    simp only [List.map_cons, List.sum_cons] at hz
    obtain ⟨env1, e1, e2⟩ := hx a (List.mem_cons_self ..) acc (by omega)
    rw [List.map_cons, forL, e1, List.all_cons]
    simp only [e2]
    rcases bcase (p a) with q | q
    · obtain ⟨i1, i2⟩ := ih (fun x hx' => hx x (List.mem_cons_of_mem _ hx')) (acc ++ f a) (by simp; omega)
      simp only [q, if_true, turn_nx, Bool.true_and]
      refine ⟨fun z => ?_, i2⟩
      rw [i1 z]
      simp
    · rw [q]
      refine ⟨fun z => (by cases z), fun _ => ⟨acc, ?_⟩⟩
      simp only [Bool.false_eq_true, if_false, turn_rt]
/-- each turn adds f a to the last cell -/
theorem forL_add (hx : ∀ a ∈ l, ∀ acc : List PyData, acc.length + (f a).length ≤ sizeLine → ∃ env1, asgT tg (.dat (inj a)) env = some env1 ∧ (b env1 (h ++ [.lst acc]) = .nx env (h ++ [.lst (acc ++ f a)]) ∨ b env1 (h ++ [.lst acc]) = .ct env (h ++ [.lst (acc ++ f a)]))) :
    ∀ acc : List PyData, acc.length + (l.map fun a => (f a).length).sum ≤ sizeLine → forL tg b (l.map inj) env (h ++ [.lst acc]) = .nx env (h ++ [.lst (acc ++ l.flatMap f)]) := by
  induction l with
  | nil => exact fun acc _ => by simp [forL]
  | cons a l ih =>
    intro acc hz
    simp only [List.map_cons, List.sum_cons] at hz
    obtain ⟨env1, e1, e2⟩ := hx a (List.mem_cons_self ..) acc (by omega)
    rw [List.map_cons, forL, e1]
    rcases e2 with e2 | e2
    · simp only [e2, turn_nx]
      rw [ih (fun x hx' => hx x (List.mem_cons_of_mem _ hx')) (acc ++ f a) (by simp; omega)]
      simp
    · simp only [e2, turn_ct]
      rw [ih (fun x hx' => hx x (List.mem_cons_of_mem _ hx')) (acc ++ f a) (by simp; omega)]
      simp
end
section
variable {α : Type} {l : List α} {h : Hep}
theorem DT.sorted_r (D : DT α) (hd : D.dep ≤ 50) (hs : D.Srt) : fSorted [.ref h.length] (h ++ [.lst (l.map D.inj)]) = .ok (.dat (.list ((D.sort l).map D.inj))) (h ++ [.lst (l.map D.inj)]) := by
  have q := D.sorted_l (h := h ++ [.lst (l.map D.inj)]) (l := l) hd hs
  have e : fSorted [.ref h.length] (h ++ [.lst (l.map D.inj)]) = fSorted [.dat (.list (l.map D.inj))] (h ++ [.lst (l.map D.inj)]) := by
    unfold fSorted
    simp only [toDat_e, toDat_d]
  rw [e, q]
@[simp] theorem tup_r {xs : List PyData} : fTuple [.ref h.length] (h ++ [.lst xs]) = .ok (.dat (.tuple xs)) (h ++ [.lst xs]) := by
  unfold fTuple
  simp [itemsD]
@[simp] theorem len_r {xs : List PyData} (hz : xs.length ≤ sizeLine) : fLen [.ref h.length] (h ++ [.lst xs]) = .ok (.dat (.int xs.length)) (h ++ [.lst xs]) := by
  unfold fLen
  simp [lenD]
@[simp] theorem frz_r {xs : List PyData} : kFrz (.ref h.length) (h ++ [.lst xs]) = .ok (.dat (.list xs)) (h ++ [.dead]) := by
  unfold kFrz
  simp [List.set_append_right]
@[simp] theorem it_r {xs : List PyData} : kIt (.ref h.length) (h ++ [.lst xs]) = .ok (.of (.ref h.length)) (h ++ [.lst xs]) := by
  unfold kIt Src.itm
  simp
  unfold nxt
  cases xs <;> simp
end
section
variable {α β : Type} {inj : α → PyData} {inj1 : α → β → PyData} {tg tg1 : Tgt} {mi mi1 : Vi.Env → Hep → Out Src} {mt mt1 : Vi.Env → Hep → Out Bool} {me : ME} {vs vs1 : List Nat} {env : Vi.Env} {h : Hep} {s : Src} {l : List α} {p : α → Bool} {f : α → PyData} {E : α → Vi.Env}
theorem lc_yE (hi : mi env h = .ok s h) (hs : SrcIs s (l.map inj)) (hz : l.length ≤ sizeLine) (hE : ∀ a ∈ l, asgT tg (.dat (inj a)) (wipeE env vs) = some (E a)) (hx : ∀ a ∈ l, ∀ g, me (E a) g = .ok (.dat (f a)) g) :
    mLc .data tg mi mYes me vs env h = .ok (.dat (.list (l.map f))) h := lc_ofy f hs hz hi fun a ha => ⟨_, hE a ha, hx a ha⟩
theorem lc_pE (hi : mi env h = .ok s h) (hs : SrcIs s (l.map inj)) (hz : l.length ≤ sizeLine) (hE : ∀ a ∈ l, asgT tg (.dat (inj a)) (wipeE env vs) = some (E a)) (ht : ∀ a ∈ l, ∀ g, mt (E a) g = .ok (p a) g) (hx : ∀ a ∈ l, p a = true → ∀ g, me (E a) g = .ok (.dat (f a)) g) :
    mLc .data tg mi mt me vs env h = .ok (.dat (.list ((l.filter p).map f))) h := lc_of p f hs hz hi fun a ha => ⟨_, hE a ha, fun g => ⟨ht a ha g, fun hp => hx a ha hp g⟩⟩
variable {m : α → List β} {f2 : α → β → PyData} {E2 : α → β → Vi.Env} {s1 : α → Src} {p2 : α → β → Bool}
theorem lc2_yE (hi : mi env h = .ok s h) (hs : SrcIs s (l.map inj)) (hE : ∀ a ∈ l, asgT tg (.dat (inj a)) (wipeE env vs) = some (E a)) (hi1 : ∀ a ∈ l, ∀ g, mi1 (E a) g = .ok (s1 a) g) (hs1 : ∀ a ∈ l, SrcIs (s1 a) ((m a).map (inj1 a)))
    (hE2 : ∀ a ∈ l, ∀ b ∈ m a, asgT tg1 (.dat (inj1 a b)) (wipeE (E a) vs1) = some (E2 a b)) (hz : (l.map fun a => (m a).length).sum ≤ sizeLine) (hx : ∀ a ∈ l, ∀ b ∈ m a, ∀ g, me (E2 a b) g = .ok (.dat (f2 a b)) g) :
    mLc2 .data tg mi mYes tg1 mi1 mYes me vs vs1 env h = .ok (.dat (.list (l.flatMap fun a => (m a).map (f2 a)))) h :=
  lc2_y hi hs hz fun a ha => ⟨_, hE a ha, ⟨s1 a, hi1 a ha, hs1 a ha⟩, fun b hb => ⟨_, hE2 a ha b hb, hx a ha b hb⟩⟩
theorem lc2_pE (hi : mi env h = .ok s h) (hs : SrcIs s (l.map inj)) (hE : ∀ a ∈ l, asgT tg (.dat (inj a)) (wipeE env vs) = some (E a)) (hi1 : ∀ a ∈ l, ∀ g, mi1 (E a) g = .ok (s1 a) g) (hs1 : ∀ a ∈ l, SrcIs (s1 a) ((m a).map (inj1 a)))
    (hE2 : ∀ a ∈ l, ∀ b ∈ m a, asgT tg1 (.dat (inj1 a b)) (wipeE (E a) vs1) = some (E2 a b)) (hz : (l.map fun a => (m a).length).sum ≤ sizeLine) (ht : ∀ a ∈ l, ∀ b ∈ m a, ∀ g, mt1 (E2 a b) g = .ok (p2 a b) g) (hx : ∀ a ∈ l, ∀ b ∈ m a, p2 a b = true → ∀ g, me (E2 a b) g = .ok (.dat (f2 a b)) g) :
    mLc2 .data tg mi mYes tg1 mi1 mt1 me vs vs1 env h = .ok (.dat (.list (l.flatMap fun a => ((m a).filter (p2 a)).map (f2 a)))) h :=
  lc2_p hi hs hz fun a ha => ⟨_, hE a ha, ⟨s1 a, hi1 a ha, hs1 a ha⟩, fun b hb => ⟨_, hE2 a ha b hb, fun g => ⟨ht a ha b hb g, fun hp => hx a ha b hb hp g⟩⟩⟩
end
/-! ### numbers -/
def rgI (n : Nat) : List Int := (List.range n).map fun (i : Nat) => (i : Int)
theorem rg_map (n : Nat) : ((List.range n).map fun (i : Nat) => PyData.int (i : Nat)) = (rgI n).map .int := by
  unfold rgI
  rw [List.map_map]
  rfl
section
variable {h : Hep} {l m : List Int} {a : Int} {u w : List Nat} {n : Nat} {ng : Bool}
theorem sort_il : fSorted [.dat (.list (l.map .int))] h = .ok (.dat (.list ((dInt.sort l).map .int))) h := dInt.sorted_l (by decide) srt_int
theorem sort_it : fSorted [.dat (.tuple (l.map .int))] h = .ok (.dat (.list ((dInt.sort l).map .int))) h := dInt.sorted_t (by decide) srt_int
theorem sort_ir : fSorted [.ref h.length] (h ++ [.lst (l.map .int)]) = .ok (.dat (.list ((dInt.sort l).map .int))) (h ++ [.lst (l.map .int)]) := dInt.sorted_r (by decide) srt_int
theorem sort_nl : fSorted [.dat (.list (u.map fun i => .int (i : Nat)))] h = .ok (.dat (.list ((dNat.sort u).map fun i => .int (i : Nat)))) h := dNat.sorted_l (by decide) srt_nat
theorem sort_nt : fSorted [.dat (.tuple (u.map fun i => .int (i : Nat)))] h = .ok (.dat (.list ((dNat.sort u).map fun i => .int (i : Nat)))) h := dNat.sorted_t (by decide) srt_nat
theorem sort_nr : fSorted [.ref h.length] (h ++ [.lst (u.map fun i => .int (i : Nat))]) = .ok (.dat (.list ((dNat.sort u).map fun i => .int (i : Nat)))) (h ++ [.lst (u.map fun i => .int (i : Nat))]) := dNat.sorted_r (by decide) srt_nat
theorem eq_li : dEq (.dat (.list (l.map .int))) (.dat (.list (m.map .int))) h = .ok (.dat (.bool (decide (l = m)))) h := (dLst dInt).eq (by decide)
theorem eq_ti : dEq (.dat (.tuple (l.map .int))) (.dat (.tuple (m.map .int))) h = .ok (.dat (.bool (decide (l = m)))) h := (dTup dInt).eq (by decide)
theorem eq_ln : dEq (.dat (.list (u.map fun i => .int (i : Nat)))) (.dat (.list (w.map fun i => .int (i : Nat)))) h = .ok (.dat (.bool (decide (u = w)))) h := (dLst dNat).eq (by decide)
theorem eq_tn : dEq (.dat (.tuple (u.map fun i => .int (i : Nat)))) (.dat (.tuple (w.map fun i => .int (i : Nat)))) h = .ok (.dat (.bool (decide (u = w)))) h := (dTup dNat).eq (by decide)
theorem in_it : dIn ng (.dat (.int a)) (.dat (.tuple (l.map .int))) h = .ok (.dat (.bool (ng ^^ decide (a ∈ l)))) h := dInt.in_t (by decide)
theorem in_il : dIn ng (.dat (.int a)) (.dat (.list (l.map .int))) h = .ok (.dat (.bool (ng ^^ decide (a ∈ l)))) h := dInt.in_l (by decide)
theorem in_nt : dIn ng (.dat (.int (n : Nat))) (.dat (.tuple (u.map fun i => .int (i : Nat)))) h = .ok (.dat (.bool (ng ^^ decide (n ∈ u)))) h := dNat.in_t (by decide)
theorem in_nl : dIn ng (.dat (.int (n : Nat))) (.dat (.list (u.map fun i => .int (i : Nat)))) h = .ok (.dat (.bool (ng ^^ decide (n ∈ u)))) h := dNat.in_l (by decide)
theorem cnt_it : fCount (.dat (.tuple (l.map .int))) [.dat (.int a)] h = .ok (.dat (.int (l.count a : Nat))) h := dInt.count_t (by decide)
theorem cnt_il : fCount (.dat (.list (l.map .int))) [.dat (.int a)] h = .ok (.dat (.int (l.count a : Nat))) h := dInt.count_l (by decide)
theorem cnt_nt : fCount (.dat (.tuple (u.map fun i => .int (i : Nat)))) [.dat (.int (n : Nat))] h = .ok (.dat (.int (u.count n : Nat))) h := dNat.count_t (by decide)
theorem cnt_nl : fCount (.dat (.list (u.map fun i => .int (i : Nat)))) [.dat (.int (n : Nat))] h = .ok (.dat (.int (u.count n : Nat))) h := dNat.count_l (by decide)
end
def kPart (v : Val) (h : Hep) : Out (Option Int) := match v with
  | .dat (.int i) => .ok (some i) h
  | _ => .bad
@[simp] theorem x_partG {m : ME} {env : Vi.Env} {h : Hep} : mPart m env h = (m env h).bind kPart := (rfl)
@[simp] theorem kPart_i {i : Int} {h : Hep} : kPart (.dat (.int i)) h = .ok (some i) h := (rfl)
/-- the slices that a place asks -/
@[simp] theorem cut_tn {α : Type} {l : List α} {n : Nat} : Vi.cut l none (some (n : Int)) = l.take n := cut_take
@[simp] theorem cut_dn {α : Type} {l : List α} {n : Nat} : Vi.cut l (some (n : Int)) none = l.drop n := cut_drop
@[simp] theorem cut_dn1 {α : Type} {l : List α} {n : Nat} : Vi.cut l (some ((n : Int) + 1)) none = l.drop (n + 1) := cut_drop (n := n + 1)
@[simp] theorem cut_tn1 {α : Type} {l : List α} {n : Nat} : Vi.cut l none (some ((n : Int) + 1)) = l.take (n + 1) := cut_take (n := n + 1)
theorem add_ttm {α : Type} {f : α → PyData} {l m : List α} {h : Hep} (hz : l.length + m.length ≤ sizeLine) : dAdd (.dat (.tuple (l.map f))) (.dat (.tuple (m.map f))) h = .ok (.dat (.tuple ((l ++ m).map f))) h := by
  rw [add_tt (by simpa using hz), List.map_append]
theorem add_tt1 {α : Type} {f : α → PyData} {l : List α} {a : α} {h : Hep} (hz : l.length + 1 ≤ sizeLine) : dAdd (.dat (.tuple (l.map f))) (.dat (.tuple [f a])) h = .ok (.dat (.tuple ((l ++ [a]).map f))) h := add_ttm (m := [a]) hz
theorem rep_t {α : Type} {f : α → PyData} {a : α} {k : Nat} {h : Hep} (h1 : 1 ≤ k) (h2 : k ≤ 1000) : dMul (.dat (.tuple [f a])) (.dat (.int k)) h = .ok (.dat (.tuple ((List.replicate k a).map f))) h := by
  unfold dMul
  simp only
  by_cases c : 2 ≤ k
  · rw [if_pos ⟨by simp, by omega, by omega, by simp⟩]
    have e : ((k : Int).toNat) = k := by omega
    rw [e]
    have : ∀ k : Nat, (List.replicate k [f a]).flatten = (List.replicate k a).map f := fun k => by simp
    rw [this]
    rfl
  · have : k = 1 := by omega
    subst this
    rw [if_neg (by omega), if_pos (by simp)]
    rfl
theorem rep_l {xs : List PyData} {k : Nat} {h : Hep} (h2 : k ≤ 1000) (h3 : xs.length ≤ 1000) : dMul (.dat (.list xs)) (.dat (.int k)) h = .ok (.dat (.list (List.replicate k xs).flatten)) h := by
  unfold dMul
  simp only
  have e : ((k : Int).toNat) = k := by omega
  rw [if_pos ⟨by omega, by omega, by rw [e, size_is]; exact Nat.le_trans (Nat.mul_le_mul h3 h2) (by decide)⟩, e]
  rfl
/-- lengths of what is gathered -/
theorem len_flatMap_le {α β : Type} {f : α → List β} {k : Nat} : ∀ {l : List α}, (∀ a ∈ l, (f a).length ≤ k) → (l.map fun a => (f a).length).sum ≤ k * l.length
  | [], _ => by simp
  | a :: l, h => by
    have h1 := h a (List.mem_cons_self ..)
    have h2 := len_flatMap_le (l := l) fun b hb => h b (List.mem_cons_of_mem _ hb)
    simp only [List.map_cons, List.sum_cons, List.length_cons, Nat.mul_add]
    omega
theorem len_flatMap {α β : Type} {f : α → List β} {l : List α} : (l.flatMap f).length = (l.map fun a => (f a).length).sum := by
  rw [List.length_flatMap]
theorem tkM {α β : Type} {f : α → β} {l : List α} {n : Nat} : (l.map f).take n = (l.take n).map f := List.map_take.symm
theorem dpM {α β : Type} {f : α → β} {l : List α} {n : Nat} : (l.map f).drop n = (l.drop n).map f := List.map_drop.symm
theorem rvM {α β : Type} {f : α → β} {l : List α} : (l.map f).reverse = l.reverse.map f := List.map_reverse.symm
theorem flat1 {α β : Type} {f : α → β} {l : List α} : (l.flatMap fun a => [f a]) = l.map f := by
  induction l with
  | nil => rfl
  | cons a l ih => rw [List.flatMap_cons, ih]; rfl
theorem sum_ones {α β : Type} {f : α → β} {l : List α} : (l.map fun a => [f a].length).sum = l.length := by
  induction l with
  | nil => rfl
  | cons a l ih => rw [List.map_cons, List.sum_cons, ih]; simp; omega
/-- each turn adds one thing -/
theorem forL_add1 {α : Type} {inj : α → PyData} {tg : Tgt} {b : MS} {env : Vi.Env} {h : Hep} {l : List α} {f : α → PyData} (hx : ∀ a ∈ l, ∀ acc : List PyData, acc.length < sizeLine → ∃ env1, asgT tg (.dat (inj a)) env = some env1 ∧ (b env1 (h ++ [.lst acc]) = .nx env (h ++ [.lst (acc ++ [f a])]) ∨ b env1 (h ++ [.lst acc]) = .ct env (h ++ [.lst (acc ++ [f a])]))) :
    ∀ acc : List PyData, acc.length + l.length ≤ sizeLine → forL tg b (l.map inj) env (h ++ [.lst acc]) = .nx env (h ++ [.lst (acc ++ l.map f)]) := by
  intro acc hz
  rw [forL_add (f := fun a => [f a]) (fun a ha acc hz => hx a ha acc (by simp at hz; omega)) acc (by rw [sum_ones]; exact hz), flat1]
theorem snocIn {α : Type} {P : List α → Prop} (h0 : P []) (hs : ∀ l a, P l → P (l ++ [a])) (l : List α) : P l := by
  rw [← List.reverse_reverse l]
  generalize l.reverse = m
  induction m with
  | nil => exact h0
  | cons a m ih =>
    rw [List.reverse_cons]
    exact hs _ _ ih
theorem snocCases {α : Type} (l : List α) : l = [] ∨ ∃ r a, l = r ++ [a] := snocIn (P := fun l => l = [] ∨ ∃ r a, l = r ++ [a]) (.inl rfl) (fun l a _ => .inr ⟨l, a, rfl⟩) l
theorem cut_d1 {α : Type} {l : List α} : Vi.cut l (some 1) none = l.drop 1 := cut_drop (n := 1)
theorem cut_t1 {α : Type} {l : List α} : Vi.cut l none (some 1) = l.take 1 := cut_take (n := 1)
theorem rev_t {α : Type} {f : α → PyData} {l : List α} {h : Hep} : kRev (.dat (.tuple (l.map f))) h = .ok (.dat (.tuple (l.reverse.map f))) h := by
  rw [List.map_reverse]
  rfl
theorem rev_l {α : Type} {f : α → PyData} {l : List α} {h : Hep} : kRev (.dat (.list (l.map f))) h = .ok (.dat (.list (l.reverse.map f))) h := by
  rw [List.map_reverse]
  rfl
end Vi
end Vr3_

section Vr4_
set_option linter.all false
set_option maxRecDepth 100000
/-! # Vr4: a list of lists that change: cells of cells -/
namespace Vi
open PySem PySem.Spec PyProof.Rows L2
/-- a heap with a list of lists behind h -/
def SH (h : Hep) (lots : List (List PyData)) : Hep := h ++ .refs ((List.range lots.length).map (h.length + 1 + ·)) :: lots.map Cell.lst
section
variable {h : Hep} {lots : List (List PyData)} {i : Nat}
theorem sh_n : (SH h lots)[h.length]? = some (.refs ((List.range lots.length).map (h.length + 1 + ·))) := by
  unfold SH
  rw [List.getElem?_append_right (Nat.le_refl _), Nat.sub_self]
  rfl
theorem sh_i (hi : i < lots.length) : (SH h lots)[h.length + 1 + i]? = some (.lst (lots.getD i [])) := by
  unfold SH
  rw [List.getElem?_append_right (by omega), show h.length + 1 + i - h.length = i + 1 by omega, List.getElem?_cons_succ, List.getElem?_map, get_d hi]
  rfl
theorem sh_ix (hi : i < lots.length) : dIx (.ref h.length) (.dat (.int i)) (SH h lots) = .ok (.ref (h.length + 1 + i)) (SH h lots) := by
  unfold dIx
  simp only [sh_n]
  have q : atI ((List.range lots.length).map (h.length + 1 + ·)) (i : Int) = some (h.length + 1 + i) := by
    rw [atI_nat (by simpa using hi)]
    simp
  rw [q]
theorem sh_ty (hi : i < lots.length) : tyC (SH h lots) (.ref (h.length + 1 + i)) = some "list" := by
  unfold tyC
  simp only [sh_i hi]
theorem sh_set (hi : i < lots.length) (xs : List PyData) : (SH h lots).set (h.length + 1 + i) (.lst xs) = SH h (lots.set i xs) := by
  unfold SH
  rw [List.set_append_right _ _ (by omega), show h.length + 1 + i - h.length = i + 1 by omega, List.set_cons_succ, List.length_set, List.map_set]
theorem sh_app (hi : i < lots.length) {d : PyData} (hz : (lots.getD i []).length < sizeLine) : fAppend (.ref (h.length + 1 + i)) [.dat d] (SH h lots) = .ok (.dat .none) (SH h (lots.set i (lots.getD i [] ++ [d]))) := by
  unfold fAppend
  simp only [sh_i hi]
  rw [if_pos hz, sh_set hi]
theorem sh_sorted {α : Type} (D : DT α) (hd : D.dep ≤ 50) (hs : D.Srt) {g : Hep} {m : Nat} {l : List α} (e : g[m]? = some (.lst (l.map D.inj))) : fSorted [.ref m] g = .ok (.dat (.list ((D.sort l).map D.inj))) g := by
  have q := D.sorted_l (h := g) (l := l) hd hs
  have e : fSorted [.ref m] g = fSorted [.dat (.list (l.map D.inj))] g := by
    unfold fSorted
    simp only [toDat, e]
  rw [e, q]
theorem sh_leave (d : PyData) : leave h (.dat d) (SH h lots) = .ok (.dat d) h := leave_dat h _ d
end
/-- comprehensions over values that stand at a place: each element as f says, over any longer heap -/
theorem lcGo_v {tg : Tgt} {me : ME} {s : Src} {env : Vi.Env} {h : Hep} {vs : List Val} {f : Val → PyData} (hs : ∀ acc i, s.itm i (h ++ [.lst acc]) = nxt vs i) (hx : ∀ v ∈ vs, ∃ env1, asgT tg v env = some env1 ∧ ∀ acc, me env1 (h ++ [.lst acc]) = .ok (.dat (f v)) (h ++ [.lst acc])) :
    ∀ (n i : Nat) (acc : List PyData), i ≤ vs.length → acc.length + (vs.length - i) ≤ sizeLine → (lcGo tg mYes me h.length s env n i (h ++ [.lst acc]) = .bad ∨ lcGo tg mYes me h.length s env n i (h ++ [.lst acc]) = .ok () (h ++ [.lst (acc ++ (vs.drop i).map f)])) ∧ (vs.length < n + i → lcGo tg mYes me h.length s env n i (h ++ [.lst acc]) = .ok () (h ++ [.lst (acc ++ (vs.drop i).map f)]))
  | 0, i, acc, hi, hz => ⟨.inl rfl, fun z => by omega⟩
  | n + 1, i, acc, hi, hz => by
    unfold lcGo
    rw [hs]
    by_cases hlt : i < vs.length
    · obtain ⟨env1, e1, e2⟩ := hx vs[i] (List.getElem_mem hlt)
      rw [nxt_at hlt, List.drop_eq_getElem_cons hlt]
      simp only [e1, x_yes, Out.noEr_ok, bind_ok, if_true, e2]
      rw [putC_end (by omega)]
      simp only
      obtain ⟨i1, i2⟩ := lcGo_v hs hx n (i + 1) (acc ++ [f vs[i]]) hlt (by simp; omega)
      rw [List.append_assoc] at i1 i2
      exact ⟨i1, fun z => i2 (by omega)⟩
    · have e : i = vs.length := by omega
      subst e
      rw [nxt_len, List.drop_length]
      simp
theorem lc_v {tg : Tgt} {mi : Vi.Env → Hep → Out Src} {me : ME} {ws : List Nat} {env : Vi.Env} {h : Hep} {s : Src} {vs : List Val} {f : Val → PyData} (hi : mi env h = .ok s h) (hs : ∀ acc i, s.itm i (h ++ [.lst acc]) = nxt vs i) (hz : vs.length ≤ sizeLine) (hx : ∀ v ∈ vs, ∃ env1, asgT tg v (wipeE env ws) = some env1 ∧ ∀ acc, me env1 (h ++ [.lst acc]) = .ok (.dat (f v)) (h ++ [.lst acc])) :
    mLc .data tg mi mYes me ws env h = .ok (.dat (.list (vs.map f))) h := by
  unfold mLc
  rw [hi, bind_ok]
  have e : steps .bad (fun f => lcGo tg mYes me h.length s (wipeE env ws) f 0 (h ++ [Mode.data.init])) = .ok () (h ++ [.lst (vs.map f)]) := by
    refine steps_all (fun n => ?_) ⟨vs.length + 1, ?_⟩
    · have q := (lcGo_v hs hx n 0 [] (Nat.zero_le _) (by simpa using hz)).1
      simpa [Mode.init] using q
    · have q := (lcGo_v hs hx (vs.length + 1) 0 [] (Nat.zero_le _) (by simpa using hz)).2 (by omega)
      simpa [Mode.init] using q
  rw [e, bind_ok]
  exact lcEnd_data
/-- [[] for _ in range(k)] -/
theorem lcGo_cells {tg : Tgt} {s : Src} {env : Vi.Env} {h : Hep} {l : List PyData} (hs : SrcIs s l) (hE : ∀ d ∈ l, ∃ env1, asgT tg (.dat d) env = some env1) : ∀ (n i : Nat), i ≤ l.length → l.length ≤ 1000 →
    (lcGo tg mYes (mCel mNil) h.length s env n i (h ++ .refs ((List.range i).map (h.length + 1 + ·)) :: List.replicate i (.lst [])) = .bad ∨ lcGo tg mYes (mCel mNil) h.length s env n i (h ++ .refs ((List.range i).map (h.length + 1 + ·)) :: List.replicate i (.lst [])) = .ok () (SH h (List.replicate l.length []))) ∧
    (l.length < n + i → lcGo tg mYes (mCel mNil) h.length s env n i (h ++ .refs ((List.range i).map (h.length + 1 + ·)) :: List.replicate i (.lst [])) = .ok () (SH h (List.replicate l.length [])))
  | 0, i, hi, hz => ⟨.inl rfl, fun z => by omega⟩
  | n + 1, i, hi, hz => by
    unfold lcGo
    rw [hs]
    by_cases hlt : i < l.length
    · obtain ⟨env1, e1⟩ := hE l[i] (List.getElem_mem hlt)
      rw [nxt_at (by simpa using hlt)]
      simp only [List.getElem_map, e1, x_yes, Out.noEr_ok, bind_ok, if_true, x_cel, x_nil, kCel_0]
      have p : putC h.length (.ref (h ++ Cell.refs ((List.range i).map (h.length + 1 + ·)) :: List.replicate i (.lst [])).length) ((h ++ Cell.refs ((List.range i).map (h.length + 1 + ·)) :: List.replicate i (.lst [])) ++ [.lst []]) =
          some (h ++ Cell.refs ((List.range (i + 1)).map (h.length + 1 + ·)) :: List.replicate (i + 1) (.lst [])) := by
        unfold putC
        have e : ((h ++ Cell.refs ((List.range i).map (h.length + 1 + ·)) :: List.replicate i (.lst [])) ++ [.lst []])[h.length]? = some (Cell.refs ((List.range i).map (h.length + 1 + ·))) := by
          rw [List.append_assoc, List.getElem?_append_right (Nat.le_refl _), Nat.sub_self]
          rfl
        rw [e]
        simp only
        rw [if_pos (by simp [size_is]; omega), List.append_assoc, List.set_append_right _ _ (Nat.le_refl _), Nat.sub_self]
        simp only [List.cons_append, List.set_cons_zero, Option.some.injEq, List.append_cancel_left_eq, List.cons.injEq, Cell.refs.injEq]
        refine ⟨?_, ?_⟩
        · rw [List.range_succ, List.map_append]
          simp
          omega
        · rw [List.replicate_succ']
      rw [p]
      simp only
      obtain ⟨i1, i2⟩ := lcGo_cells hs hE n (i + 1) hlt hz
      exact ⟨i1, fun z => i2 (by omega)⟩
    · have e : i = l.length := by omega
      subst e
      have hn := nxt_len (l := l.map Val.dat)
      rw [List.length_map] at hn
      rw [hn]
      have : SH h (List.replicate l.length []) = h ++ .refs ((List.range l.length).map (h.length + 1 + ·)) :: List.replicate l.length (.lst []) := by
        unfold SH
        simp
      rw [this]
      simp
theorem lc_cells {tg : Tgt} {mi : Vi.Env → Hep → Out Src} {ws : List Nat} {env : Vi.Env} {h : Hep} {s : Src} {l : List PyData} (hi : mi env h = .ok s h) (hs : SrcIs s l) (hz : l.length ≤ 1000) (h1 : 1 ≤ l.length) (hE : ∀ d ∈ l, ∃ env1, asgT tg (.dat d) (wipeE env ws) = some env1) :
    mLc .refs tg mi mYes (mCel mNil) ws env h = .ok (.ref h.length) (SH h (List.replicate l.length [])) := by
  unfold mLc
  rw [hi, bind_ok]
  have e : steps .bad (fun f => lcGo tg mYes (mCel mNil) h.length s (wipeE env ws) f 0 (h ++ [Mode.refs.init])) = .ok () (SH h (List.replicate l.length [])) := by
    refine steps_all (fun n => ?_) ⟨l.length + 1, ?_⟩
    · have q := (lcGo_cells hs hE n 0 (h := h) (Nat.zero_le _) hz).1
      simpa [Mode.init] using q
    · have q := (lcGo_cells hs hE (l.length + 1) 0 (h := h) (Nat.zero_le _) hz).2 (by omega)
      simpa [Mode.init] using q
  rw [e, bind_ok]
  unfold lcEnd
  simp only
  have len : (SH h (List.replicate l.length [])).length = h.length + 1 + l.length := by
    unfold SH
    simp
    omega
  rw [if_pos (by rw [len]; omega)]
  unfold leave
  rw [if_pos (by simp [Val.closed])]
  unfold trim
  rw [if_neg]
  rintro ⟨_, z⟩
  have tk : (SH h (List.replicate l.length [])).take (h ++ [Mode.refs.init]).length = h ++ [.refs ((List.range l.length).map (h.length + 1 + ·))] := by
    unfold SH
    rw [List.take_append]
    simp
    exact List.take_of_length_le (by omega)
  unfold Shut at z
  rw [tk] at z
  have mem0 : h.length + 1 + 0 ∈ (List.range l.length).map (h.length + 1 + ·) := List.mem_map.mpr ⟨0, List.mem_range.mpr (by omega), rfl⟩
  rcases z with z | z
  · have z2 : Cell.refs ((List.range l.length).map (h.length + 1 + ·)) = .refs [] := by
      have := List.append_cancel_left z
      simpa [Mode.init] using this
    rw [Cell.refs.injEq] at z2
    rw [z2] at mem0
    cases mem0
  · have := z (.refs ((List.range l.length).map (h.length + 1 + ·))) (by simp) _ mem0
    simp at this
end Vi
end Vr4_

section Vr5_
set_option linter.all false
set_option maxRecDepth 100000
/-! # Vr5: the last cell, by its places -/
namespace Vi
open PySem PySem.Spec PyProof.Rows L2
section
variable {h : Hep} {xs : List PyData} {i : Nat}
theorem ixN_nat {n i : Nat} (hi : i < n) : ixN n (i : Int) = some i := by
  unfold ixN
  rw [if_pos (by omega), if_pos (by omega)]
  simp
theorem ix_r {d : PyData} (e : xs[i]? = some d) : dIx (.ref h.length) (.dat (.int i)) (h ++ [.lst xs]) = .ok (.dat d) (h ++ [.lst xs]) := by
  obtain ⟨hi, e1⟩ := List.getElem?_eq_some_iff.mp e
  unfold dIx
  simp only
  have : (h ++ [Cell.lst xs])[h.length]? = some (.lst xs) := by simp
  simp only [this]
  rw [atI_nat hi, e1]
  rfl
theorem st_r {d : PyData} (hi : i < xs.length) : kSub (.ref h.length) (.dat (.int i)) (.dat d) (h ++ [.lst xs]) = some (h ++ [.lst (xs.set i d)]) := by
  unfold kSub
  have : (h ++ [Cell.lst xs])[h.length]? = some (.lst xs) := by simp
  simp only [this]
  rw [ixN_nat hi]
  simp [List.set_append_right]
theorem mul_lc {k : Nat} (h2 : k ≤ 1000) (h3 : xs.length ≤ 1000) : dMulC (.dat (.list xs)) (.dat (.int k)) h = .ok (.ref h.length) (h ++ [.lst (List.replicate k xs).flatten]) := by
  unfold dMulC
  simp only
  have e : ((k : Int).toNat) = k := by omega
  rw [if_pos (show MulS xs k from ⟨by omega, by omega, by rw [e, size_is]; exact Nat.le_trans (Nat.mul_le_mul h3 h2) (by decide)⟩), e]
theorem mul_lc1 {d : PyData} {k : Nat} (h2 : k ≤ 1000) : dMulC (.dat (.list [d])) (.dat (.int k)) h = .ok (.ref h.length) (h ++ [.lst (List.replicate k d)]) := by
  rw [mul_lc h2 (by simp)]
  simp
end
@[simp] theorem x_parN {is : List Nat} {m : Vi.Env → Hep → Out (List Val)} {env : Vi.Env} {h : Hep} : mParN is m env h = (m env h).st env fun vs h1 => kParN is vs env h1 := (rfl)
@[simp] theorem kParN_0 {env : Vi.Env} {h : Hep} : kParN [] [] env h = .nx env h := (rfl)
@[simp] theorem kParN_c {i : Nat} {is : List Nat} {v : Val} {vs : List Val} {env : Vi.Env} {h : Hep} : kParN (i :: is) (v :: vs) env h = kParN is vs (env.set i (some v)) h := (rfl)
@[simp] theorem ne_ss {x y : Str} {h : Hep} : dNe (.dat (.str x)) (.dat (.str y)) h = .ok (.dat (.bool (!(x == y)))) h := by rw [ne_dd (by simp) (by simp) (by simp)]; simp
end Vi
namespace Vi
open PySem PySem.Spec PyProof.Rows L2
@[simp] theorem toTrk_d {xs : List PyData} {h : Hep} : toTrk h (.dat (.list xs)) = some xs := (rfl)
@[simp] theorem toTrk_r {xs : List PyData} {h : Hep} : toTrk (h ++ [.lst xs]) (.ref h.length) = some xs := by
  unfold toTrk
  simp
theorem addC_rd {xs ys : List PyData} {h : Hep} (hz : xs.length + ys.length ≤ sizeLine) : dAddC (.ref h.length) (.dat (.list ys)) (h ++ [.lst xs]) = .ok (.ref (h ++ [Cell.lst xs]).length) ((h ++ [.lst xs]) ++ [.lst (xs ++ ys)]) := by
  unfold dAddC
  simp only [toTrk_r, toTrk_d]
  rw [if_pos hz]
theorem addC_dd {xs ys : List PyData} {h : Hep} (hz : xs.length + ys.length ≤ sizeLine) : dAddC (.dat (.list xs)) (.dat (.list ys)) h = .ok (.ref h.length) (h ++ [.lst (xs ++ ys)]) := by
  unfold dAddC
  simp only [toTrk_d]
  rw [if_pos hz]
@[simp] theorem kCel_6 {a0 a1 a2 a3 a4 a5 : PyData} {h : Hep} : Vi.kCel [.dat a0, .dat a1, .dat a2, .dat a3, .dat a4, .dat a5] h = .ok (.ref h.length) (h ++ [.lst [a0, a1, a2, a3, a4, a5]]) := (rfl)
@[simp] theorem kCel_7 {a0 a1 a2 a3 a4 a5 a6 : PyData} {h : Hep} : Vi.kCel [.dat a0, .dat a1, .dat a2, .dat a3, .dat a4, .dat a5, .dat a6] h = .ok (.ref h.length) (h ++ [.lst [a0, a1, a2, a3, a4, a5, a6]]) := (rfl)
@[simp] theorem kCel_8 {a0 a1 a2 a3 a4 a5 a6 a7 : PyData} {h : Hep} : Vi.kCel [.dat a0, .dat a1, .dat a2, .dat a3, .dat a4, .dat a5, .dat a6, .dat a7] h = .ok (.ref h.length) (h ++ [.lst [a0, a1, a2, a3, a4, a5, a6, a7]]) := (rfl)
@[simp] theorem kCel_9 {a0 a1 a2 a3 a4 a5 a6 a7 a8 : PyData} {h : Hep} : Vi.kCel [.dat a0, .dat a1, .dat a2, .dat a3, .dat a4, .dat a5, .dat a6, .dat a7, .dat a8] h = .ok (.ref h.length) (h ++ [.lst [a0, a1, a2, a3, a4, a5, a6, a7, a8]]) := (rfl)
@[simp] theorem kCel_10 {a0 a1 a2 a3 a4 a5 a6 a7 a8 a9 : PyData} {h : Hep} : Vi.kCel [.dat a0, .dat a1, .dat a2, .dat a3, .dat a4, .dat a5, .dat a6, .dat a7, .dat a8, .dat a9] h = .ok (.ref h.length) (h ++ [.lst [a0, a1, a2, a3, a4, a5, a6, a7, a8, a9]]) := (rfl)
@[simp] theorem kCel_11 {a0 a1 a2 a3 a4 a5 a6 a7 a8 a9 a10 : PyData} {h : Hep} : Vi.kCel [.dat a0, .dat a1, .dat a2, .dat a3, .dat a4, .dat a5, .dat a6, .dat a7, .dat a8, .dat a9, .dat a10] h = .ok (.ref h.length) (h ++ [.lst [a0, a1, a2, a3, a4, a5, a6, a7, a8, a9, a10]]) := (rfl)
@[simp] theorem kCel_12 {a0 a1 a2 a3 a4 a5 a6 a7 a8 a9 a10 a11 : PyData} {h : Hep} : Vi.kCel [.dat a0, .dat a1, .dat a2, .dat a3, .dat a4, .dat a5, .dat a6, .dat a7, .dat a8, .dat a9, .dat a10, .dat a11] h = .ok (.ref h.length) (h ++ [.lst [a0, a1, a2, a3, a4, a5, a6, a7, a8, a9, a10, a11]]) := (rfl)
@[simp] theorem kCel_13 {a0 a1 a2 a3 a4 a5 a6 a7 a8 a9 a10 a11 a12 : PyData} {h : Hep} : Vi.kCel [.dat a0, .dat a1, .dat a2, .dat a3, .dat a4, .dat a5, .dat a6, .dat a7, .dat a8, .dat a9, .dat a10, .dat a11, .dat a12] h = .ok (.ref h.length) (h ++ [.lst [a0, a1, a2, a3, a4, a5, a6, a7, a8, a9, a10, a11, a12]]) := (rfl)
@[simp] theorem kCel_14 {a0 a1 a2 a3 a4 a5 a6 a7 a8 a9 a10 a11 a12 a13 : PyData} {h : Hep} : Vi.kCel [.dat a0, .dat a1, .dat a2, .dat a3, .dat a4, .dat a5, .dat a6, .dat a7, .dat a8, .dat a9, .dat a10, .dat a11, .dat a12, .dat a13] h = .ok (.ref h.length) (h ++ [.lst [a0, a1, a2, a3, a4, a5, a6, a7, a8, a9, a10, a11, a12, a13]]) := (rfl)
@[simp] theorem kCel_15 {a0 a1 a2 a3 a4 a5 a6 a7 a8 a9 a10 a11 a12 a13 a14 : PyData} {h : Hep} : Vi.kCel [.dat a0, .dat a1, .dat a2, .dat a3, .dat a4, .dat a5, .dat a6, .dat a7, .dat a8, .dat a9, .dat a10, .dat a11, .dat a12, .dat a13, .dat a14] h = .ok (.ref h.length) (h ++ [.lst [a0, a1, a2, a3, a4, a5, a6, a7, a8, a9, a10, a11, a12, a13, a14]]) := (rfl)
@[simp] theorem kCel_16 {a0 a1 a2 a3 a4 a5 a6 a7 a8 a9 a10 a11 a12 a13 a14 a15 : PyData} {h : Hep} : Vi.kCel [.dat a0, .dat a1, .dat a2, .dat a3, .dat a4, .dat a5, .dat a6, .dat a7, .dat a8, .dat a9, .dat a10, .dat a11, .dat a12, .dat a13, .dat a14, .dat a15] h = .ok (.ref h.length) (h ++ [.lst [a0, a1, a2, a3, a4, a5, a6, a7, a8, a9, a10, a11, a12, a13, a14, a15]]) := (rfl)
@[simp] theorem kLst_17 {a0 a1 a2 a3 a4 a5 a6 a7 a8 a9 a10 a11 a12 a13 a14 a15 a16 : PyData} {h : Hep} : Vi.kLst [.dat a0, .dat a1, .dat a2, .dat a3, .dat a4, .dat a5, .dat a6, .dat a7, .dat a8, .dat a9, .dat a10, .dat a11, .dat a12, .dat a13, .dat a14, .dat a15, .dat a16] h = .ok (.dat (.list [a0, a1, a2, a3, a4, a5, a6, a7, a8, a9, a10, a11, a12, a13, a14, a15, a16])) h := (rfl)
@[simp] theorem kLst_18 {a0 a1 a2 a3 a4 a5 a6 a7 a8 a9 a10 a11 a12 a13 a14 a15 a16 a17 : PyData} {h : Hep} : Vi.kLst [.dat a0, .dat a1, .dat a2, .dat a3, .dat a4, .dat a5, .dat a6, .dat a7, .dat a8, .dat a9, .dat a10, .dat a11, .dat a12, .dat a13, .dat a14, .dat a15, .dat a16, .dat a17] h = .ok (.dat (.list [a0, a1, a2, a3, a4, a5, a6, a7, a8, a9, a10, a11, a12, a13, a14, a15, a16, a17])) h := (rfl)
@[simp] theorem kLst_19 {a0 a1 a2 a3 a4 a5 a6 a7 a8 a9 a10 a11 a12 a13 a14 a15 a16 a17 a18 : PyData} {h : Hep} : Vi.kLst [.dat a0, .dat a1, .dat a2, .dat a3, .dat a4, .dat a5, .dat a6, .dat a7, .dat a8, .dat a9, .dat a10, .dat a11, .dat a12, .dat a13, .dat a14, .dat a15, .dat a16, .dat a17, .dat a18] h = .ok (.dat (.list [a0, a1, a2, a3, a4, a5, a6, a7, a8, a9, a10, a11, a12, a13, a14, a15, a16, a17, a18])) h := (rfl)
@[simp] theorem kLst_20 {a0 a1 a2 a3 a4 a5 a6 a7 a8 a9 a10 a11 a12 a13 a14 a15 a16 a17 a18 a19 : PyData} {h : Hep} : Vi.kLst [.dat a0, .dat a1, .dat a2, .dat a3, .dat a4, .dat a5, .dat a6, .dat a7, .dat a8, .dat a9, .dat a10, .dat a11, .dat a12, .dat a13, .dat a14, .dat a15, .dat a16, .dat a17, .dat a18, .dat a19] h = .ok (.dat (.list [a0, a1, a2, a3, a4, a5, a6, a7, a8, a9, a10, a11, a12, a13, a14, a15, a16, a17, a18, a19])) h := (rfl)
@[simp] theorem kLst_21 {a0 a1 a2 a3 a4 a5 a6 a7 a8 a9 a10 a11 a12 a13 a14 a15 a16 a17 a18 a19 a20 : PyData} {h : Hep} : Vi.kLst [.dat a0, .dat a1, .dat a2, .dat a3, .dat a4, .dat a5, .dat a6, .dat a7, .dat a8, .dat a9, .dat a10, .dat a11, .dat a12, .dat a13, .dat a14, .dat a15, .dat a16, .dat a17, .dat a18, .dat a19, .dat a20] h = .ok (.dat (.list [a0, a1, a2, a3, a4, a5, a6, a7, a8, a9, a10, a11, a12, a13, a14, a15, a16, a17, a18, a19, a20])) h := (rfl)
@[simp] theorem kLst_22 {a0 a1 a2 a3 a4 a5 a6 a7 a8 a9 a10 a11 a12 a13 a14 a15 a16 a17 a18 a19 a20 a21 : PyData} {h : Hep} : Vi.kLst [.dat a0, .dat a1, .dat a2, .dat a3, .dat a4, .dat a5, .dat a6, .dat a7, .dat a8, .dat a9, .dat a10, .dat a11, .dat a12, .dat a13, .dat a14, .dat a15, .dat a16, .dat a17, .dat a18, .dat a19, .dat a20, .dat a21] h = .ok (.dat (.list [a0, a1, a2, a3, a4, a5, a6, a7, a8, a9, a10, a11, a12, a13, a14, a15, a16, a17, a18, a19, a20, a21])) h := (rfl)
@[simp] theorem kLst_23 {a0 a1 a2 a3 a4 a5 a6 a7 a8 a9 a10 a11 a12 a13 a14 a15 a16 a17 a18 a19 a20 a21 a22 : PyData} {h : Hep} : Vi.kLst [.dat a0, .dat a1, .dat a2, .dat a3, .dat a4, .dat a5, .dat a6, .dat a7, .dat a8, .dat a9, .dat a10, .dat a11, .dat a12, .dat a13, .dat a14, .dat a15, .dat a16, .dat a17, .dat a18, .dat a19, .dat a20, .dat a21, .dat a22] h = .ok (.dat (.list [a0, a1, a2, a3, a4, a5, a6, a7, a8, a9, a10, a11, a12, a13, a14, a15, a16, a17, a18, a19, a20, a21, a22])) h := (rfl)
@[simp] theorem kLst_24 {a0 a1 a2 a3 a4 a5 a6 a7 a8 a9 a10 a11 a12 a13 a14 a15 a16 a17 a18 a19 a20 a21 a22 a23 : PyData} {h : Hep} : Vi.kLst [.dat a0, .dat a1, .dat a2, .dat a3, .dat a4, .dat a5, .dat a6, .dat a7, .dat a8, .dat a9, .dat a10, .dat a11, .dat a12, .dat a13, .dat a14, .dat a15, .dat a16, .dat a17, .dat a18, .dat a19, .dat a20, .dat a21, .dat a22, .dat a23] h = .ok (.dat (.list [a0, a1, a2, a3, a4, a5, a6, a7, a8, a9, a10, a11, a12, a13, a14, a15, a16, a17, a18, a19, a20, a21, a22, a23])) h := (rfl)
@[simp] theorem kTup_9 {a0 a1 a2 a3 a4 a5 a6 a7 a8 : PyData} {h : Hep} : Vi.kTup [.dat a0, .dat a1, .dat a2, .dat a3, .dat a4, .dat a5, .dat a6, .dat a7, .dat a8] h = .ok (.dat (.tuple [a0, a1, a2, a3, a4, a5, a6, a7, a8])) h := (rfl)
@[simp] theorem kTup_10 {a0 a1 a2 a3 a4 a5 a6 a7 a8 a9 : PyData} {h : Hep} : Vi.kTup [.dat a0, .dat a1, .dat a2, .dat a3, .dat a4, .dat a5, .dat a6, .dat a7, .dat a8, .dat a9] h = .ok (.dat (.tuple [a0, a1, a2, a3, a4, a5, a6, a7, a8, a9])) h := (rfl)
@[simp] theorem kTup_11 {a0 a1 a2 a3 a4 a5 a6 a7 a8 a9 a10 : PyData} {h : Hep} : Vi.kTup [.dat a0, .dat a1, .dat a2, .dat a3, .dat a4, .dat a5, .dat a6, .dat a7, .dat a8, .dat a9, .dat a10] h = .ok (.dat (.tuple [a0, a1, a2, a3, a4, a5, a6, a7, a8, a9, a10])) h := (rfl)
@[simp] theorem kTup_12 {a0 a1 a2 a3 a4 a5 a6 a7 a8 a9 a10 a11 : PyData} {h : Hep} : Vi.kTup [.dat a0, .dat a1, .dat a2, .dat a3, .dat a4, .dat a5, .dat a6, .dat a7, .dat a8, .dat a9, .dat a10, .dat a11] h = .ok (.dat (.tuple [a0, a1, a2, a3, a4, a5, a6, a7, a8, a9, a10, a11])) h := (rfl)
@[simp] theorem kTup_13 {a0 a1 a2 a3 a4 a5 a6 a7 a8 a9 a10 a11 a12 : PyData} {h : Hep} : Vi.kTup [.dat a0, .dat a1, .dat a2, .dat a3, .dat a4, .dat a5, .dat a6, .dat a7, .dat a8, .dat a9, .dat a10, .dat a11, .dat a12] h = .ok (.dat (.tuple [a0, a1, a2, a3, a4, a5, a6, a7, a8, a9, a10, a11, a12])) h := (rfl)
theorem min_tI {l : List Int} {h : Hep} (hl : l ≠ []) : fMin [.dat (.tuple (l.map .int))] h = .ok (.dat (.int (minI l))) h := by
  have q := min_map (h := h) (fun i : Int => i) hl
  have e : fMin [.dat (.tuple (l.map .int))] h = fMin [.dat (.list (l.map fun a => .int a))] h := by
    unfold fMin
    rfl
  rw [e, q]
  simp
theorem max_tI {l : List Int} {h : Hep} (hl : l ≠ []) : fMax [.dat (.tuple (l.map .int))] h = .ok (.dat (.int (maxI l))) h := by
  have q := max_map (h := h) (fun i : Int => i) hl
  have e : fMax [.dat (.tuple (l.map .int))] h = fMax [.dat (.list (l.map fun a => .int a))] h := by
    unfold fMax
    rfl
  rw [e, q]
  simp
/-! ### cells behind the hand's -/
section
variable {c : Cell} {cs ds : Hep} {k : Nat} {xs ys : List PyData} {d : PyData}
theorem at_k : (c :: (cs ++ ds))[cs.length + (k + 1)]? = ds[k]? := by
  rw [show cs.length + (k + 1) = (cs.length + k) + 1 by omega, List.getElem?_cons_succ, List.getElem?_append_right (by omega)]
  congr 1
  omega
theorem set_k {x : Cell} : (c :: (cs ++ ds)).set (cs.length + (k + 1)) x = c :: (cs ++ ds.set k x) := by
  rw [show cs.length + (k + 1) = (cs.length + k) + 1 by omega, List.set_cons_succ, List.set_append_right _ _ (by omega)]
  congr 2
  congr 1
  omega
theorem ty_k (e : ds[k]? = some (.lst xs)) : tyC (c :: (cs ++ ds)) (.ref (cs.length + (k + 1))) = some "list" := by
  unfold tyC
  simp only [at_k, e]
theorem app_k (e : ds[k]? = some (.lst xs)) (hz : xs.length < 1000000) : fAppend (.ref (cs.length + (k + 1))) [.dat d] (c :: (cs ++ ds)) = .ok (.dat .none) (c :: (cs ++ ds.set k (.lst (xs ++ [d])))) := by
  unfold fAppend
  simp only [at_k, e]
  rw [if_pos (by rw [size_is]; omega), set_k]
theorem ext_k (e : ds[k]? = some (.lst xs)) (hz : xs.length + ys.length < 1000000) : fExtend (.ref (cs.length + (k + 1))) [.dat (.list ys)] (c :: (cs ++ ds)) = .ok (.dat .none) (c :: (cs ++ ds.set k (.lst (xs ++ ys)))) := by
  unfold fExtend
  simp only [at_k, e, toTrk_d]
  rw [if_pos (by rw [size_is]; omega), set_k]
theorem frz_k (e : ds[k]? = some (.lst xs)) : kFrz (.ref (cs.length + (k + 1))) (c :: (cs ++ ds)) = .ok (.dat (.list xs)) (c :: (cs ++ ds.set k .dead)) := by
  unfold kFrz
  simp only [at_k, e, set_k]
theorem addC_k (e : ds[k]? = some (.lst xs)) (hz : xs.length + ys.length < 1000000) : dAddC (.ref (cs.length + (k + 1))) (.dat (.list ys)) (c :: (cs ++ ds)) = .ok (.ref (cs.length + (ds.length + 1))) (c :: (cs ++ (ds ++ [.lst (xs ++ ys)]))) := by
  unfold dAddC toTrk
  simp only [at_k, e]
  rw [if_pos (by rw [size_is]; omega)]
  simp [Nat.add_assoc]
end
/-- a function for what there is at each place -/
theorem ac {α β : Type} {P : α → β → Prop} (h : ∀ a, ∃ b, P a b) : ∃ f : α → β, ∀ a, P a (f a) := ⟨fun a => Classical.choose (h a), fun a => Classical.choose_spec (h a)⟩
end Vi
end Vr5_

section Basm_
set_option linter.all false
set_option maxRecDepth 100000
namespace Bas
open PySem PySem.Spec PyProof.Rows L2 Vi
noncomputable def b_is_integer : MS := mRet (mAnd (mIsi ["int"] (mVar 0)) (mNot (mIsi ["bool"] (mVar 0))))
noncomputable def m_is_integer : FL := mFun 1 b_is_integer
noncomputable def b_is_flag : MS := mRet (mIsi ["bool"] (mVar 0))
noncomputable def m_is_flag : FL := mFun 1 b_is_flag
noncomputable def b_is_sized : MS := mRet (mAnd (mIsi ["tuple"] (mVar 0)) (mChain dLe dLe (mVar 1) (mCall fLen (mCons (mVar 0) (mNil))) (mVar 2)))
noncomputable def m_is_sized : FL := mFun 3 b_is_sized
noncomputable def b_are_rising : MS := mRet (mCall fAll (mCons (mLc .data (.tup [.nm 1, .nm 2]) (mIta kZip (mCons (mVar 0) (mCons (mSl (mVar 0) (mPart (mC (.int 1))) mNoPart) (mNil)))) (mYes) (mBin dLt (mVar 1) (mVar 2)) [1, 2]) (mNil)))
noncomputable def m_are_rising : FL := mFun 3 b_are_rising
noncomputable def L_all_lots_1 : MS := mDead [2] (mSet 1 (mBin dAdd (mVar 1) (mLc .data (.nm 4) (mIt (mVar 1)) (mYes) (mBin dAdd (mVar 4) (mTup (mCons (mVar 2) (mNil)))) [4])))
noncomputable def b_all_lots : MS := mSeq (mSet 1 (mLst (mCons (mTup (mNil)) (mNil)))) (mSeq (mDead [2] (mFor (.nm 2) (mIt (mVar 0)) (L_all_lots_1))) (mRet (mLc .data (.tup [.nm 3, .nm 4]) (mIt (mCall fSorted (mCons (mLc .data (.nm 4) (mIt (mVar 1)) (mYes) (mTup (mCons (mCall fLen (mCons (mVar 4) (mNil))) (mCons (mVar 4) (mNil)))) [4]) (mNil)))) (mYes) (mVar 4) [3, 4])))
noncomputable def m_all_lots : FL := mFun 5 b_all_lots
noncomputable def L_all_orders_1 : MS := mDead [4] (mDrop (mMeth ["list"] fExtend (mVar 3) (mCons (mLc .data (.nm 5) (mIta kRng1 (mCons (mVar 0) (mNil))) (mTest (mBin (dIn true) (mVar 5) (mVar 4))) (mBin dAdd (mVar 4) (mTup (mCons (mVar 5) (mNil)))) [5]) (mNil))))
noncomputable def L_all_orders_2 : MS := mDead [2, 3, 4] (mSeq (mSet 3 (mCel (mNil))) (mSeq (mDead [4] (mFor (.nm 4) (mIt (mVar 1)) (L_all_orders_1))) (mSet 1 (mFrz (mVar 3)))))
noncomputable def b_all_orders : MS := mSeq (mSet 1 (mLst (mCons (mTup (mNil)) (mNil)))) (mSeq (mDead [2, 3, 4] (mFor (.nm 2) (mIta kRng1 (mCons (mVar 0) (mNil))) (L_all_orders_2))) (mRet (mVar 1)))
noncomputable def m_all_orders : FL := mFun 6 b_all_orders
noncomputable def L_common_part_1 : MS := mPar 0 1 (mCons (mVar 1) (mCons (mBin dMod (mVar 0) (mVar 1)) (mNil)))
noncomputable def b_common_part : MS := mSeq (mDead [1] (mWhile (mTest (mBin dGt (mVar 1) (mC (.int 0)))) (L_common_part_1))) (mRet (mVar 0))
noncomputable def m_common_part : FL := mFun 2 b_common_part
noncomputable def b_law : MS := mRet (mC (.bool true))
noncomputable def m_law : FL := mFun 1 b_law
noncomputable def b_is_within : MS := mRet (mAnd (mApp 1 m_is_integer (mCons (mVar 0) (mNil))) (mChain dLe dLe (mVar 1) (mVar 0) (mVar 2)))
noncomputable def m_is_within : FL := mFun 3 b_is_within
noncomputable def b_is_order : MS := mSeq (mIfS (mtOr (mtNot (mTest (mApp 3 m_is_sized (mCons (mVar 0) (mCons (mVar 1) (mCons (mVar 1) (mNil))))))) (mtNot (mTest (mCall fAll (mCons (mLc .data (.nm 2) (mIt (mVar 0)) (mYes) (mApp 1 m_is_integer (mCons (mVar 2) (mNil))) [2]) (mNil)))))) (mRet (mC (.bool false))) (mNext)) (mRet (mBin dEq (mCall fSorted (mCons (mVar 0) (mNil))) (mOne kLRg1 (mVar 1))))
noncomputable def m_is_order : FL := mFun 3 b_is_order
noncomputable def b_made : MS := mSeq (mSet 2 (mApp 2 m_common_part (mCons (mCall fAbs (mCons (mVar 0) (mNil))) (mCons (mVar 1) (mNil))))) (mRet (mTup (mCons (mBin dDiv (mVar 0) (mVar 2)) (mCons (mBin dDiv (mVar 1) (mVar 2)) (mNil)))))
noncomputable def m_made : FL := mFun 3 b_made
noncomputable def b_is_lot : MS := mSeq (mIfS (mtOr (mtNot (mTest (mIsi ["tuple"] (mVar 0)))) (mtNot (mTest (mCall fAll (mCons (mLc .data (.nm 2) (mIt (mVar 0)) (mYes) (mApp 3 m_is_within (mCons (mVar 2) (mCons (mC (.int 0)) (mCons (mBin dSub (mVar 1) (mC (.int 1))) (mNil))))) [2]) (mNil)))))) (mRet (mC (.bool false))) (mNext)) (mRet (mApp 1 m_are_rising (mCons (mVar 0) (mNil))))
noncomputable def m_is_lot : FL := mFun 3 b_is_lot
end Bas
end Basm_

section Basp_
set_option linter.all false
set_option maxRecDepth 100000
open PySem PySem.Spec PyProof.Rows L2 Vi
/-! the ways "src", "lc", "lcp": a comprehension is run, its function found -/
local macro_rules
  | `(tactic| wp_walk using "st", $ts,*) => `(tactic| simp only [Vi.abs_i, Vi.add_ii, Vi.all_map, Vi.andThen_bad, Vi.andThen_bk, Vi.andThen_ct, Vi.andThen_er, Vi.andThen_nx, Vi.andThen_rt, Vi.bind_bad, Vi.bind_er, Vi.bind_ok, Vi.eq_bb, Vi.eq_ii, Vi.eq_ss, Vi.ge_ii, Vi.gt_ii, Vi.iBool_dict, Vi.iInt_dict, Vi.iLst_dict, Vi.iStr_dict, Vi.iTup_dict, Vi.int_i, Vi.isBool_bool, Vi.isBool_int, Vi.isBool_list, Vi.isBool_none, Vi.isBool_str, Vi.isBool_tuple, Vi.isInt_bool, Vi.isInt_int, Vi.isInt_list, Vi.isInt_none, Vi.isInt_str, Vi.isInt_tuple, Vi.isLst_bool, Vi.isLst_int, Vi.isLst_list, Vi.isLst_none, Vi.isLst_str, Vi.isLst_tuple, Vi.isStr_bool, Vi.isStr_int, Vi.isStr_list, Vi.isStr_none, Vi.isStr_str, Vi.isStr_tuple, Vi.isTup_bool, Vi.isTup_int, Vi.isTup_list, Vi.isTup_none, Vi.isTup_str, Vi.isTup_tuple, Vi.is_none, Vi.isi_bool, Vi.isi_int, Vi.isi_list, Vi.isi_str, Vi.isi_tl, Vi.isi_tuple, Vi.it_dat_list, Vi.it_dat_str, Vi.it_dat_tup, Vi.kCel_0, Vi.kCel_1, Vi.kCel_2, Vi.kCel_3, Vi.kCel_4, Vi.kCel_5, Vi.kCel_6, Vi.kCel_7, Vi.kCel_8, Vi.kCel_9, Vi.kCel_10, Vi.kCel_11, Vi.kCel_12, Vi.kCel_13, Vi.kCel_14, Vi.kCel_15, Vi.kCel_16, Vi.kLst_17, Vi.kLst_18, Vi.kLst_19, Vi.kLst_20, Vi.kLst_21, Vi.kLst_22, Vi.kLst_23, Vi.kLst_24, Vi.kTup_9, Vi.kTup_10, Vi.kTup_11, Vi.kTup_12, Vi.kTup_13, Vi.kEnum_l, Vi.kEnum_t, Vi.kLst_0, Vi.kLst_1, Vi.kLst_10, Vi.kLst_11, Vi.kLst_12, Vi.kLst_13, Vi.kLst_14, Vi.kLst_15, Vi.kLst_16, Vi.kLst_2, Vi.kLst_3, Vi.kLst_4, Vi.kLst_5, Vi.kLst_6, Vi.kLst_7, Vi.kLst_8, Vi.kLst_9, Vi.kTup_0, Vi.kTup_1, Vi.kTup_2, Vi.kTup_3, Vi.kTup_4, Vi.kTup_5, Vi.kTup_6, Vi.kTup_7, Vi.kTup_8, Vi.kZip_ll, Vi.kZip_lt, Vi.kZip_tl, Vi.kZip_tt, Vi.le_ii, Vi.leave_dat, Vi.leave_self, Vi.len_l, Vi.len_t, Vi.list_l, Vi.list_t, Vi.lt_ii, Vi.max_ii, Vi.min_ii, Vi.ne_bb, Vi.ne_ss, Vi.ne_ii, Vi.sl_l, Vi.sl_t, Vi.sub_ii, Vi.trim_self, Vi.tuple_l, Vi.tuple_t, Vi.turn_bad, Vi.turn_bk, Vi.turn_ct, Vi.turn_er, Vi.turn_nx, Vi.turn_rt, Vi.tyC_e, Vi.tyC_l, Vi.tyC_s, Vi.tyC_t, Vi.wipe_0, Vi.wipe_bad, Vi.wipe_bk, Vi.wipe_c, Vi.wipe_ct, Vi.wipe_er, Vi.wipe_nx, Vi.wipe_rt, Vi.x_C, Vi.x_and, Vi.x_app, Vi.x_asg, Vi.x_bin, Vi.x_brk, Vi.x_call, Vi.x_cel, Vi.x_chain, Vi.x_cnt, Vi.x_cons, Vi.x_dats0, Vi.x_datsS, Vi.x_dead, Vi.x_drop, Vi.x_frz, Vi.x_if, Vi.x_ifS, Vi.x_isE, Vi.x_isi, Vi.x_it, Vi.x_ita, Vi.x_kAnd, Vi.x_kChain, Vi.x_kNeg, Vi.x_kNot, Vi.x_kOr, Vi.x_kPar, Vi.x_kTest, Vi.x_lst, Vi.x_meth, Vi.x_neg, Vi.x_next, Vi.x_nil, Vi.x_noPart, Vi.x_not, Vi.x_ok, Vi.x_one, Vi.x_or, Vi.x_par, Vi.x_partG, Vi.kPart_i, Vi.tkM, Vi.dpM, Vi.rvM, Vi.cut_tn, Vi.cut_dn, Vi.cut_tn1, Vi.cut_dn1, Vi.cut_mapS, Vi.cut_d1, Vi.cut_t1, Vi.rev_t, Vi.rev_l, Vi.x_par, Vi.x_kPar, Vi.x_parN, Vi.kParN_0, Vi.kParN_c, List.length_map, Vi.toDat_e, Vi.tup_r, Vi.frz_r, Vi.it_r, List.mem_singleton, List.mem_cons, true_or, or_true, Vi.x_raise, Vi.x_ret, Vi.x_retN, Vi.x_rev, Vi.x_seq, Vi.x_set, Vi.x_sl, Vi.x_store, Vi.x_tAnd, Vi.x_tNot, Vi.x_tOr, Vi.x_test, Vi.x_tup, Vi.x_two, Vi.x_var0, Vi.x_varS, Vi.x_yes, Vi.st_ok', Vi.Out.st_er, Vi.Out.st_bad, Vi.kAsg, Vi.asgT, Vi.asgTs, List.set_cons_succ, List.set_cons_zero, List.map_cons, List.map_nil, List.length_cons, List.length_nil, List.replicate, List.cons_append, List.nil_append, Nat.reduceAdd, Nat.reduceSub, Int.reduceAdd, Int.reduceSub, Int.reduceMul, Int.reduceNeg, if_true, if_false, reduceIte, Bool.not_true, Bool.not_false, Bool.false_eq_true, Bool.true_and, Bool.false_and, Bool.and_true, Bool.and_false, Bool.true_or, Bool.false_or, Bool.or_true, Bool.or_false, decide_true, decide_false, beq_self_eq_true, $[$ts:term],*])
local macro_rules
  | `(tactic| walk_at "st") => `(tactic| wp_walk using "st", id_eq)
local macro_rules
  | `(tactic| walk_at "src") => `(tactic| first | exact src_tup_of _ _ | exact src_list_of _ _ | exact src_rn _ | exact src_en_l _ _ | exact src_en_t _ _ | exact src_z_ll _ _ _ _ | exact src_z_lt _ _ _ _ | exact src_z_tl _ _ _ _ | exact src_z_tt _ _ _ _ | exact src_ri _ _ | exact src_id_t _ | exact src_id_l _)
local macro_rules
  | `(tactic| walk_at "hz") => `(tactic| first | (simp only [size_is, List.length_range, List.length_map, List.length_zipIdx, List.length_zip]; omega) | (simp [size_is]; omega) | (simp [size_is]; done) | exact Nat.le_trans (List.length_filter_le _ _) (by simp [size_is]; omega))
local macro_rules
  | `(tactic| wp_walk using "ev", $ts,*) => `(tactic| first | (simp [$[$ts:term],*, -List.map_tail, -List.drop_one, -List.map_drop, -List.map_take, -List.map_reverse, -List.all_eq_true, -List.any_eq_true, -List.getD_eq_getElem?_getD]; done) | (simp [$[$ts:term],*, -List.map_tail, -List.drop_one, -List.map_drop, -List.map_take, -List.map_reverse, -List.all_eq_true, -List.any_eq_true, -List.getD_eq_getElem?_getD]; exact rfl) | (simp [$[$ts:term],*, -List.map_tail, -List.drop_one, -List.map_drop, -List.map_take, -List.map_reverse, -List.all_eq_true, -List.any_eq_true, -List.getD_eq_getElem?_getD]; exact kRng1_n (by omega)) | (simp [$[$ts:term],*, -List.map_tail, -List.drop_one, -List.map_drop, -List.map_take, -List.map_reverse, -List.all_eq_true, -List.any_eq_true, -List.getD_eq_getElem?_getD]; exact kRng1_i (by omega) (by omega)) | (simp [$[$ts:term],*, -List.map_tail, -List.drop_one, -List.map_drop, -List.map_take, -List.map_reverse, -List.all_eq_true, -List.any_eq_true, -List.getD_eq_getElem?_getD]; exact kRng2_i (by omega) (by omega) (by omega) (by omega)))
local macro_rules
  | `(tactic| wp_walk using "lc", $ts,*) => `(tactic| (
      rw [lc_y ?hi ?hs ?hz ?hx]
      (case hi => wp_walk using "ev", $ts,*)
      (case hs => walk_at "src")
      (case hz => walk_at "hz")
      (case hx => (intro a ha; refine ⟨_, rfl, fun g => ?_⟩; wp_walk using "ev", $ts,*))))
local macro_rules
  | `(tactic| wp_walk using "lcp", $ts,*) => `(tactic| (
      rw [lc_p ?hi ?hs ?hz ?ht ?hx]
      (case hi => wp_walk using "ev", $ts,*)
      (case hs => walk_at "src")
      (case hz => walk_at "hz")
      (case ht => (intro a ha; refine ⟨_, rfl, fun g => ?_⟩; wp_walk using "ev", $ts,*))
      (case hx => (intro a ha hp; refine ⟨_, rfl, fun g => ?_⟩; wp_walk using "ev", $ts,*))))
local macro_rules
  | `(tactic| wp_walk using "s", $ts,*) => `(tactic| simp [$[$ts:term],*, -List.map_tail, -List.drop_one, -List.map_drop, -List.map_take, -List.map_reverse, -List.all_eq_true, -List.any_eq_true, -List.getD_eq_getElem?_getD])
local macro_rules
  | `(tactic| walk_at "s") => `(tactic| simp [-List.map_tail, -List.drop_one, -List.map_drop, -List.map_take, -List.map_reverse, -List.all_eq_true, -List.any_eq_true, -List.getD_eq_getElem?_getD])
local macro_rules
  | `(tactic| walk_at "lc") => `(tactic| wp_walk using "lc", id_eq)
local macro_rules
  | `(tactic| walk_at "lcp") => `(tactic| wp_walk using "lcp", id_eq)
local macro_rules
  | `(tactic| wp_walk using "lcx", $t, $ts,*) => `(tactic| (
      rw [lc_yE ?hi ?hs ?hz ?hE ?hx]
      (case hi => wp_walk using "ev", $ts,*)
      (case hs => walk_at "src")
      (case hE => exact fun a ha => rfl)
      (case hx => exact $t)
      (case hz => walk_at "hz")))
local macro_rules
  | `(tactic| wp_walk using "lcpx", $u, $t, $ts,*) => `(tactic| (
      rw [lc_pE ?hi ?hs ?hz ?hE ?ht ?hx]
      (case hi => wp_walk using "ev", $ts,*)
      (case hs => walk_at "src")
      (case hE => exact fun a ha => rfl)
      (case ht => exact $u)
      (case hx => exact $t)
      (case hz => walk_at "hz")))
local macro_rules
  | `(tactic| wp_walk using "lc2", $t, $ts,*) => `(tactic| (
      rw [lc2_yE ?hi ?hs ?hE ?hi1 ?hs1 ?hE2 ?hz ?hx]
      (case hi => wp_walk using "ev", $ts,*)
      (case hs => walk_at "src")
      (case hE => exact fun a ha => rfl)
      (case hi1 => (intro a ha g; wp_walk using "ev", $ts,*))
      (case hs1 => (intro a ha; walk_at "src"))
      (case hE2 => exact fun a ha b hb => rfl)
      (case hx => exact $t)))
local macro_rules
  | `(tactic| wp_walk using "lc2p", $u, $t, $ts,*) => `(tactic| (
      rw [lc2_pE ?hi ?hs ?hE ?hi1 ?hs1 ?hE2 ?hz ?ht ?hx]
      (case hi => wp_walk using "ev", $ts,*)
      (case hs => walk_at "src")
      (case hE => exact fun a ha => rfl)
      (case hi1 => (intro a ha g; wp_walk using "ev", $ts,*))
      (case hs1 => (intro a ha; walk_at "src"))
      (case hE2 => exact fun a ha b hb => rfl)
      (case ht => exact $u)
      (case hx => exact $t)))
local macro_rules
  | `(tactic| wp_walk using "lci", $i, $t) => `(tactic| (
      rw [lc_yE ?hi ?hs ?hz ?hE ?hx]
      (case hi => exact $i)
      (case hs => walk_at "src")
      (case hE => exact fun a ha => rfl)
      (case hx => exact $t)
      (case hz => walk_at "hz")))
local macro_rules
  | `(tactic| wp_walk using "lcpi", $i, $u, $t) => `(tactic| (
      rw [lc_pE ?hi ?hs ?hz ?hE ?ht ?hx]
      (case hi => exact $i)
      (case hs => walk_at "src")
      (case hE => exact fun a ha => rfl)
      (case ht => exact $u)
      (case hx => exact $t)
      (case hz => walk_at "hz")))
/-! sums and rests -/
local macro_rules
  | `(tactic| walk_at "ar") => `(tactic| (try simp); (repeat (first | (rw [mul_r (by decide)]; simp) | (rw [mul_l (by decide)]; simp) | (rw [mod_ii (by decide)]; simp) | (rw [div_ii (by decide) (log_small (by decide) (by decide))]; simp) | (rw [pow_ii (by decide)]; simp) | (rw [mul_l (mod_small (by decide) (by decide))]; simp))))
local macro_rules
  | `(tactic| wp_walk using "lcf", $f, $t, $ts,*) => `(tactic| (
      rw [lc_yE (f := $f) ?hi ?hs ?hz ?hE ?hx]
      (case hi => wp_walk using "ev", $ts,*)
      (case hs => walk_at "src")
      (case hE => exact fun a ha => rfl)
      (case hx => exact $t)
      (case hz => walk_at "hz")))
namespace Bas
def sizedB (d : PyData) (lo hi : Int) : Bool := match d with
  | .tuple xs => decide (lo ≤ xs.length) && decide ((xs.length : Int) ≤ hi)
  | _ => false
theorem p_is_sized (d : PyData) (lo hi : Int) (h : Hep) : m_is_sized [.dat d, .dat (.int lo), .dat (.int hi)] h = .ok (.dat (.bool (sizedB d lo hi))) h := by
  unfold m_is_sized mFun b_is_sized
  cases d <;> simp [sizedB]
  rename_i xs
  by_cases c : lo ≤ xs.length <;> simp [c]
def intB : PyData → Bool
  | .int _ => true
  | _ => false
theorem p_is_integer (d : PyData) (h : Hep) : m_is_integer [.dat d] h = .ok (.dat (.bool (intB d))) h := by
  unfold m_is_integer mFun b_is_integer
  cases d <;> simp [intB]
def withinB (d : PyData) (lo hi : Int) : Bool := match d with
  | .int i => decide (lo ≤ i) && decide (i ≤ hi)
  | _ => false
theorem p_is_within (d : PyData) (lo hi : Int) (h : Hep) : m_is_within [.dat d, .dat (.int lo), .dat (.int hi)] h = .ok (.dat (.bool (withinB d lo hi))) h := by
  unfold m_is_within mFun b_is_within
  cases d <;> simp [intB, withinB, p_is_integer]
  rename_i i
  by_cases c : lo ≤ i <;> simp [c]
/-- rises -/
def risB (l : List Int) : Bool := (l.zip l.tail).all fun a => decide (a.1 < a.2)
theorem p_are_rising (l : List Int) (hz : l.length ≤ 1000) (h : Hep) : m_are_rising [.dat (.tuple (l.map .int))] h = .ok (.dat (.bool (risB l))) h := by
  unfold m_are_rising mFun b_are_rising
  simp
  walk_at "lc"
  simp [risB]
def intsOr (xs : List PyData) : List Int := xs.map fun d => match d with
  | .int i => i
  | _ => 0
theorem intsOr_of {xs : List PyData} (h : xs.all intB = true) : xs = (intsOr xs).map .int := by
  induction xs with
  | nil => rfl
  | cons d xs ih =>
    rw [List.all_cons, Bool.and_eq_true] at h
    have h1 := h.1
    cases d <;> simp [intB] at h1
    simp only [intsOr, List.map_cons]
    congr 1
    exact ih h.2
theorem intsOr_len (xs : List PyData) : (intsOr xs).length = xs.length := by simp [intsOr]
theorem intsOr_map (l : List Int) : intsOr (l.map .int) = l := by simp [intsOr, Function.comp_def]
theorem within_int {d : PyData} {a b : Int} (h : withinB d a b = true) : intB d = true := by
  cases d <;> simp [withinB] at h
  rfl
def lotB (d : PyData) (n : Int) : Bool := match d with
  | .tuple xs => xs.all (withinB · 0 (n - 1)) && risB (intsOr xs)
  | _ => false
theorem p_is_lot (d : PyData) (n : Int) (hz : shortB d = true) (h : Hep) : m_is_lot [.dat d, .dat (.int n)] h = .ok (.dat (.bool (lotB d n))) h := by
  unfold m_is_lot mFun b_is_lot
  cases d <;> simp [lotB]
  rename_i xs
  simp [shortB] at hz
  wp_walk using "lc", p_is_within
  cases q : xs.all (withinB · 0 (n - 1)) with
  | false => simp [q]
  | true =>
    have e := intsOr_of (xs := xs) (List.all_eq_true.mpr fun x hx => within_int (List.all_eq_true.mp q x hx))
    have r := p_are_rising (intsOr xs) (by rw [intsOr_len]; omega) h
    rw [← e] at r
    simp [q, r]
/-- an order of the numbers below n -/
def orderB (d : PyData) (n : Nat) : Bool := match d with
  | .tuple xs => decide (xs.length = n) && (xs.all intB && decide (dInt.sort (intsOr xs) = rgI n))
  | _ => false
theorem p_is_order (d : PyData) (n : Nat) (hn : n ≤ 1000) (h : Hep) : m_is_order [.dat d, .dat (.int n)] h = .ok (.dat (.bool (orderB d n))) h := by
  unfold m_is_order mFun b_is_order
  cases d <;> simp only [orderB] <;> try wp_walk using "st", p_is_sized, sizedB
  rename_i xs
  by_cases c : xs.length = n
  · subst c
    wp_walk using "st", Int.le_refl
    wp_walk using "lcx", (fun d hd g => by
      wp_walk using "st", p_is_integer
      exact rfl), id_eq
    walk_at "st"
    rcases bcase (xs.all intB) with q | q
    · have e := intsOr_of q
      have sl := sort_it (l := intsOr xs) (h := h)
      rw [← e] at sl
      have r1 := kLRg1_n (n := xs.length) (h := h) (by omega)
      rw [rg_map] at r1
      wp_walk using "st", q, sl, r1, eq_li
    · wp_walk using "st", q
  · rw [decide_eq_false c]
    have : (decide ((n : Int) ≤ (xs.length : Int)) && decide ((xs.length : Int) ≤ (n : Int))) = false := by
      rw [Bool.and_eq_false_iff, decide_eq_false_iff_not, decide_eq_false_iff_not]
      omega
    wp_walk using "st", this
/-! ### all orders -/
def rowD (r : List Nat) : PyData := .tuple (r.map fun i => .int (i : Nat))
def growO (n : Nat) (row : List Nat) : List (List Nat) := ((List.range n).filter fun i => decide (i ∉ row)).map fun i => row ++ [i]
def ordN (n : Nat) : Nat → List (List Nat) → List (List Nat)
  | 0, rows => rows
  | m + 1, rows => ordN n m (rows.flatMap (growO n))
def allO (n : Nat) : List (List Nat) := ordN n n [[]]
theorem growO_len (n : Nat) (row : List Nat) : (growO n row).length ≤ n := by
  unfold growO
  rw [List.length_map]
  exact Nat.le_trans (List.length_filter_le _ _) (by simp)
theorem ord_turn1 (n : Nat) (hn : n ≤ 8) (o1 o2 : Option Val) (row : List Nat) (hr : row.length ≤ 100) (h : Hep) (acc : List PyData) (ha : acc.length + ((growO n row).map rowD).length ≤ sizeLine) :
    L_all_orders_1 [some (.dat (.int n)), o1, o2, some (.ref h.length), some (.dat (rowD row)), none] (h ++ [.lst acc]) =
      .nx [some (.dat (.int n)), o1, o2, some (.ref h.length), none, none] (h ++ [.lst (acc ++ (growO n row).map rowD)]) := by
  unfold L_all_orders_1
  walk_at "st"
  wp_walk using "lcpx", (fun i hi g => by
    wp_walk using "st", rowD, in_nt
    exact rfl), (fun i hi hp g => by
    have s1 := add_tt1 (f := fun i : Nat => PyData.int i) (l := row) (a := i) (h := g) (by rw [size_is]; omega)
    wp_walk using "st", rowD, s1
    exact rfl), kRng1_n
  have x := ext_l (h := h) ha
  have e : ((List.range n).filter fun i => true ^^ decide (i ∈ row)).map (fun i => PyData.tuple ((row ++ [i]).map fun i : Nat => PyData.int (i : Nat))) = (growO n row).map rowD := by
    unfold growO
    rw [List.map_map]
    have : (fun i => true ^^ decide (i ∈ row)) = fun i => decide (i ∉ row) := by
      funext i
      by_cases c : i ∈ row <;> simp [c]
    rw [this]
    rfl
  rw [e]
  wp_walk using "st", x
theorem ord_turn2 (n : Nat) (hn : n ≤ 8) (d : PyData) (rows : List (List Nat)) (hr : ∀ row ∈ rows, row.length ≤ 100) (hz : n * rows.length ≤ 16777216) (h : Hep) :
    L_all_orders_2 [some (.dat (.int n)), some (.dat (.list (rows.map rowD))), some (.dat d), none, none, none] h =
      .nx [some (.dat (.int n)), some (.dat (.list ((rows.flatMap (growO n)).map rowD))), none, none, none, none] (h ++ [.dead]) := by
  unfold L_all_orders_2
  walk_at "st"
  rw [mFor_is (h1 := h ++ [.lst []]) (by wp_walk using "ev", id_eq) (src_list_of rowD rows)]
  have q := forL_add (tg := .nm 4) (b := L_all_orders_1) (inj := rowD) (l := rows) (h := h) (f := fun row => (growO n row).map rowD)
    (env := [some (.dat (.int n)), some (.dat (.list (rows.map rowD))), some (.dat d), some (.ref h.length), none, none])
    (fun row hrow acc ha => ⟨_, rfl, .inl (ord_turn1 n hn _ _ row (hr row hrow) h acc ha)⟩) [] (by
      have := len_flatMap_le (f := fun row => (growO n row).map rowD) (k := n) (l := rows) fun d _ => by rw [List.length_map]; exact growO_len ..
      rw [size_is]
      simp only [List.length_nil]
      omega)
  have fm : (rows.flatMap fun a => (growO n a).map rowD) = (rows.flatMap (growO n)).map rowD := by rw [List.map_flatMap]
  rw [q, fm, List.nil_append]
  walk_at "st"
theorem growO_ok {n m : Nat} {rows : List (List Nat)} (h : ∀ r ∈ rows, r.length = m) : ∀ r ∈ rows.flatMap (growO n), r.length = m + 1 := fun r hr => by
  obtain ⟨r0, h0, h1⟩ := List.mem_flatMap.mp hr
  obtain ⟨a, ha, rfl⟩ := List.mem_map.mp h1
  simp [h r0 h0]
theorem ord_loop (n : Nat) (hn : n ≤ 7) (h0 : Hep) : ∀ (ds : List PyData) (rows : List (List Nat)) (m : Nat) (cs : Hep), m + ds.length ≤ 7 → rows.length ≤ 7 ^ m → (∀ r ∈ rows, r.length = m) →
    ∃ cs', forL (.nm 2) L_all_orders_2 ds [some (.dat (.int n)), some (.dat (.list (rows.map rowD))), none, none, none, none] (h0 ++ cs) =
      .nx [some (.dat (.int n)), some (.dat (.list ((ordN n ds.length rows).map rowD))), none, none, none, none] (h0 ++ cs')
  | [], rows, m, cs, _, _, _ => ⟨cs, rfl⟩
  | d :: ds, rows, m, cs, hm, hl, hd => by
    simp only [List.length_cons] at hm
    have p : 7 ^ m ≤ 7 ^ 7 := Nat.pow_le_pow_right (by decide) (by omega)
    have p2 : (7 : Nat) ^ 7 = 823543 := by decide
    have km : n * rows.length ≤ 7 * 7 ^ m := Nat.mul_le_mul hn hl
    have t := ord_turn2 n (by omega) d rows (fun r h => by have := hd r h; omega) (by omega) (h0 ++ cs)
    have l2 := len_flatMap_le (f := growO n) (k := n) (l := rows) fun d _ => growO_len ..
    rw [← len_flatMap] at l2
    obtain ⟨cs', e⟩ := ord_loop n hn h0 ds (rows.flatMap (growO n)) (m + 1) (cs ++ [.dead]) (by omega) (by rw [Nat.pow_succ]; omega) (growO_ok hd)
    refine ⟨cs', ?_⟩
    rw [forL]
    simp only [asgT, List.set_cons_succ, List.set_cons_zero]
    rw [t, turn_nx, List.append_assoc, e]
    rfl
theorem p_all_orders (n : Nat) (hn : n ≤ 7) (h : Hep) : m_all_orders [.dat (.int n)] h = .ok (.dat (.list ((allO n).map rowD))) h := by
  unfold m_all_orders mFun b_all_orders
  walk_at "st"
  rw [mFor_is (h1 := h) (s := .rng 0 1 n) (by wp_walk using "ev", kRng1_n) (src_rn n)]
  obtain ⟨cs', e⟩ := ord_loop n hn h ((List.range n).map fun (i : Nat) => .int (i : Nat)) [[]] 0 [] (by simpa using hn) (by simp) (fun r hr => by
    rw [List.mem_singleton] at hr; subst hr; rfl)
  rw [List.append_nil, List.length_map, List.length_range] at e
  simp only [List.map_cons, List.map_nil, rowD] at e
  rw [e]
  walk_at "st"
  rfl
theorem ordN_mem (n : Nat) : ∀ (m : Nat) (rows : List (List Nat)) (r : List Nat), r ∈ ordN n m rows ↔ ∃ r0 s, r0 ∈ rows ∧ s.length = m ∧ (∀ x ∈ s, x < n) ∧ s.Nodup ∧ (∀ x ∈ s, x ∉ r0) ∧ r = r0 ++ s
  | 0, rows, r => ⟨fun h => ⟨r, [], h, rfl, fun x hx => (by cases hx), List.nodup_nil, fun x hx => (by cases hx), by simp⟩, fun ⟨r0, s, h1, h2, _, _, _, h4⟩ => by
    have : s = [] := List.length_eq_zero_iff.mp h2
    subst this
    rw [h4, List.append_nil]
    exact h1⟩
  | m + 1, rows, r => by
    rw [ordN, ordN_mem n m]
    constructor
    · rintro ⟨r0, s, h1, h2, h3, h4, h5, rfl⟩
      obtain ⟨r1, h6, h7⟩ := List.mem_flatMap.mp h1
      obtain ⟨a, ha, rfl⟩ := List.mem_map.mp h7
      obtain ⟨ha1, ha2⟩ := List.mem_filter.mp ha
      rw [decide_eq_true_eq] at ha2
      refine ⟨r1, a :: s, h6, by simp [h2], fun x hx => ?_, List.nodup_cons.mpr ⟨fun z => h5 a z (by simp), h4⟩, fun x hx => ?_, by simp⟩
      · rcases List.mem_cons.mp hx with rfl | hx
        · exact List.mem_range.mp ha1
        · exact h3 x hx
      · rcases List.mem_cons.mp hx with rfl | hx
        · exact ha2
        · exact fun z => h5 x hx (by simp [z])
    · rintro ⟨r0, s, h1, h2, h3, h4, h5, rfl⟩
      cases s with
      | nil => simp at h2
      | cons a s =>
        obtain ⟨n1, n2⟩ := List.nodup_cons.mp h4
        refine ⟨r0 ++ [a], s, List.mem_flatMap.mpr ⟨r0, h1, List.mem_map.mpr ⟨a, List.mem_filter.mpr ⟨List.mem_range.mpr (h3 a (List.mem_cons_self ..)), by rw [decide_eq_true_eq]; exact h5 a (List.mem_cons_self ..)⟩, rfl⟩⟩, by simpa using h2, fun x hx => h3 x (List.mem_cons_of_mem _ hx), n2, fun x hx z => ?_, by simp⟩
        rcases List.mem_append.mp z with z | z
        · exact h5 x (List.mem_cons_of_mem _ hx) z
        · rw [List.mem_singleton] at z
          subst z
          exact n1 hx
theorem allO_mem {n : Nat} {r : List Nat} : r ∈ allO n ↔ r.length = n ∧ (∀ x ∈ r, x < n) ∧ r.Nodup := by
  unfold allO
  rw [ordN_mem]
  constructor
  · rintro ⟨r0, s, h1, h2, h3, h4, h5, rfl⟩
    rw [List.mem_singleton] at h1
    subst h1
    exact ⟨by simpa using h2, by simpa using h3, by simpa using h4⟩
  · rintro ⟨h1, h2, h3⟩
    exact ⟨[], r, by simp, h1, h2, h3, fun x _ => by simp, by simp⟩
theorem nodup_le {α : Type} [DecidableEq α] : ∀ {l m : List α}, l.Nodup → (∀ x ∈ l, x ∈ m) → l.length ≤ m.length
  | [], m, _, _ => Nat.zero_le _
  | a :: l, m, hn, hs => by
    obtain ⟨n1, n2⟩ := List.nodup_cons.mp hn
    have ha := hs a (List.mem_cons_self ..)
    have := nodup_le (m := m.erase a) n2 fun x hx => (List.mem_erase_of_ne fun z => n1 (by rw [← z]; exact hx)).mpr (hs x (List.mem_cons_of_mem _ hx))
    rw [List.length_erase_of_mem ha] at this
    have := List.length_pos_of_mem ha
    rw [List.length_cons]
    omega
theorem nodup_perm {n : Nat} {r : List Nat} (h1 : r.length = n) (h2 : ∀ x ∈ r, x < n) (h3 : r.Nodup) : r.Perm (List.range n) := by
  refine (List.perm_ext_iff_of_nodup h3 List.nodup_range).mpr fun a => ⟨fun h => List.mem_range.mpr (h2 a h), fun h => ?_⟩
  apply Classical.byContradiction
  intro c
  have := nodup_le (l := a :: r) (m := List.range n) (List.nodup_cons.mpr ⟨c, h3⟩) fun x hx => by
    rcases List.mem_cons.mp hx with rfl | hx
    · exact h
    · exact List.mem_range.mpr (h2 x hx)
  simp [h1] at this
  omega
theorem allO_ne (n : Nat) : allO n ≠ [] := fun z => by
  have : List.range n ∈ allO n := allO_mem.mpr ⟨by simp, fun x hx => List.mem_range.mp hx, List.nodup_range⟩
  rw [z] at this
  cases this
theorem ordN_len (n : Nat) : ∀ (m : Nat) (rows : List (List Nat)), (ordN n m rows).length ≤ rows.length * n ^ m
  | 0, rows => by simp [ordN]
  | m + 1, rows => by
    have l2 := len_flatMap_le (f := growO n) (k := n) (l := rows) fun d _ => growO_len ..
    rw [← len_flatMap] at l2
    have := ordN_len n m (rows.flatMap (growO n))
    rw [ordN]
    calc _ ≤ _ := this
      _ ≤ (n * rows.length) * n ^ m := Nat.mul_le_mul_right _ l2
      _ = rows.length * n ^ (m + 1) := by rw [Nat.pow_succ, Nat.mul_comm n, Nat.mul_assoc, Nat.mul_comm n]
theorem allO_len {n : Nat} (hn : n ≤ 7) : (allO n).length ≤ 823543 := by
  have := ordN_len n n [[]]
  have p : n ^ n ≤ 7 ^ 7 := Nat.le_trans (Nat.pow_le_pow_left hn n) (Nat.pow_le_pow_right (by decide) hn)
  have p2 : (7 : Nat) ^ 7 = 823543 := by decide
  simp only [List.length_singleton, Nat.one_mul] at this
  unfold allO
  omega
end Bas
end Basp_

section K56m_
set_option linter.all false
set_option maxRecDepth 100000
namespace K56
open PySem PySem.Spec PyProof.Rows L2 Vi
def c_MOST_LEGS : PyData := .int 6
def c_MOST_LEG_TIME : PyData := .int 1000
def c_RELAY : PyData := .str "relay"
def c_PRICES : PyData := .str "prices"
/-- which own errors are which -/
def knL : List (Str × Str × Bool) := [("SchoolError", "SchoolError", true), ("SchoolError", "NoNumber", false), ("SchoolError", "NoTimes", false), ("SchoolError", "ValueError", true), ("NoNumber", "SchoolError", true), ("NoNumber", "NoNumber", true), ("NoNumber", "NoTimes", false), ("NoNumber", "ValueError", true), ("NoTimes", "SchoolError", true), ("NoTimes", "NoNumber", false), ("NoTimes", "NoTimes", true), ("NoTimes", "ValueError", true)]
def kn : Str → Str → Option Bool := knF knL
noncomputable def b_is_integer : MS := mRet (mAnd (mIsi ["int"] (mVar 0)) (mNot (mIsi ["bool"] (mVar 0))))
noncomputable def m_is_integer : FL := mFun 1 b_is_integer
noncomputable def b_is_sized : MS := mRet (mAnd (mIsi ["tuple"] (mVar 0)) (mChain dLe dLe (mVar 1) (mCall fLen (mCons (mVar 0) (mNil))) (mVar 2)))
noncomputable def m_is_sized : FL := mFun 3 b_is_sized
noncomputable def L_all_orders_1 : MS := mDead [4] (mDrop (mMeth ["list"] fExtend (mVar 3) (mCons (mLc .data (.nm 5) (mIta kRng1 (mCons (mVar 0) (mNil))) (mTest (mBin (dIn true) (mVar 5) (mVar 4))) (mBin dAdd (mVar 4) (mTup (mCons (mVar 5) (mNil)))) [5]) (mNil))))
noncomputable def L_all_orders_2 : MS := mDead [2, 3, 4] (mSeq (mSet 3 (mCel (mNil))) (mSeq (mDead [4] (mFor (.nm 4) (mIt (mVar 1)) (L_all_orders_1))) (mSet 1 (mFrz (mVar 3)))))
noncomputable def b_all_orders : MS := mSeq (mSet 1 (mLst (mCons (mTup (mNil)) (mNil)))) (mSeq (mDead [2, 3, 4] (mFor (.nm 2) (mIta kRng1 (mCons (mVar 0) (mNil))) (L_all_orders_2))) (mRet (mVar 1)))
noncomputable def m_all_orders : FL := mFun 6 b_all_orders
noncomputable def b_relay_sum : MS := mRet (mCall fSum (mCons (mLc .data (.tup [.nm 2, .nm 3]) (mIta kZip (mCons (mVar 0) (mCons (mVar 1) (mNil)))) (mYes) (mBin dIx (mVar 2) (mVar 3)) [2, 3]) (mNil)))
noncomputable def m_relay_sum : FL := mFun 4 b_relay_sum
noncomputable def L_prices_by_1 : MS := mDead [8] (mStore (mCall fMin (mCons (mBin dIx (mVar 5) (mVar 8)) (mCons (mBin dSub (mBin dAdd (mBin dIx (mVar 5) (mVar 7)) (mBin dIx (mBin dIx (mVar 0) (mVar 6)) (mVar 8))) (mBin dIx (mBin dIx (mVar 0) (mVar 6)) (mVar 7))) (mNil)))) (mVar 5) (mVar 8))
noncomputable def L_prices_by_2 : MS := mDead [6, 7, 8] (mFor (.nm 8) (mIta kRng1 (mCons (mVar 4) (mNil))) (L_prices_by_1))
noncomputable def L_prices_by_3 : MS := mDead [2, 6, 7, 8] (mFor (.tup [.nm 6, .nm 7]) (mIta kEnum (mCons (mVar 1) (mNil))) (L_prices_by_2))
noncomputable def b_prices_by : MS := mSeq (mParN [4, 5] (mCons (mCall fLen (mCons (mVar 0) (mNil))) (mCons (mBin dMulC (mLst (mCons (mC (.int 0)) (mNil))) (mCall fLen (mCons (mVar 0) (mNil)))) (mNil)))) (mSeq (mDead [2, 6, 7, 8] (mFor (.nm 2) (mIta kRng1 (mCons (mVar 4) (mNil))) (L_prices_by_3))) (mSeq (mSet 3 (mLc .data (.tup [.nm 6, .nm 7]) (mIta kEnum (mCons (mVar 1) (mNil))) (mYes) (mBin dSub (mBin dIx (mBin dIx (mVar 0) (mVar 6)) (mVar 7)) (mBin dIx (mVar 5) (mVar 7))) [6, 7])) (mRet (mTup (mCons (mCall fTuple (mCons (mVar 3) (mNil))) (mCons (mCall fTuple (mCons (mVar 5) (mNil))) (mNil)))))))
noncomputable def m_prices_by : FL := mFun 9 b_prices_by
noncomputable def b__law_hand : MS := mSeq (mSet 1 (mLc .data (.nm 2) (mIt (mSl (mVar 0) mNoPart (mPart (mC (.int 63))))) (mYes) (mCall fAbs (mCons (mCall fInt (mCons (mVar 2) (mNil))) (mNil))) [2])) (mRet (mCel (mCons (mVar 1) (mCons (mC (.int 0)) (mCons (mC (.int 0)) (mCons (mBin dAdd (mC (.int 769)) (mBin dMul (mC (.int 138)) (mCall fLen (mCons (mVar 1) (mNil))))) (mCons (mC (.int 0)) (mNil))))))))
noncomputable def m__law_hand : FL := mFun 3 b__law_hand
noncomputable def I__law_draw_1 : MS := mDead [3] (mIfS (mtAnd (mTest (mBin dEq (mBin dIx (mVar 0) (mC (.int 2))) (mC (.int 0)))) (mTest (mBin dLt (mBin dIx (mVar 0) (mC (.int 1))) (mCall fLen (mCons (mBin dIx (mVar 0) (mC (.int 0))) (mNil)))))) (mSeq (mSet 3 (mBin dIx (mBin dIx (mVar 0) (mC (.int 0))) (mBin dIx (mVar 0) (mC (.int 1))))) (mSeq (mStore (mBin dAdd (mBin dIx (mVar 0) (mC (.int 1))) (mC (.int 1))) (mVar 0) (mC (.int 1))) (mSeq (mStore (mBin dMod (mCall fInt (mCons (mBin dAdd (mBin dAdd (mBin dMul (mBin dIx (mVar 0) (mC (.int 3))) (mC (.int 69621))) (mVar 3)) (mC (.int 103))) (mNil))) (mC (.int 2147483629))) (mVar 0) (mC (.int 3))) (mIfS (mTest (mBin dGe (mVar 3) (mBin dPow (mC (.int 10)) (mC (.int 18))))) (mStore (mVar 3) (mVar 0) (mC (.int 2))) (mNext))))) (mNext))
noncomputable def I__law_draw_2 : MS := mDead [4] (mIfS (mTest (mBin dGt (mBin dIx (mVar 0) (mC (.int 2))) (mC (.int 0)))) (mSeq (mSet 4 (mBin dMod (mCall fInt (mCons (mBin dIx (mVar 0) (mC (.int 2))) (mNil))) (mVar 1))) (mSeq (mStore (mBin dDiv (mBin dIx (mVar 0) (mC (.int 2))) (mVar 1)) (mVar 0) (mC (.int 2))) (mRet (mVar 4)))) (mNext))
noncomputable def b__law_draw : MS := mSeq (I__law_draw_1) (mSeq (I__law_draw_2) (mSeq (mStore (mBin dAdd (mBin dIx (mVar 0) (mC (.int 4))) (mC (.int 1))) (mVar 0) (mC (.int 4))) (mSeq (mSet 2 (mBin dMod (mCall fInt (mCons (mBin dMul (mCall fInt (mCons (mBin dAdd (mBin dIx (mVar 0) (mC (.int 3))) (mBin dMul (mC (.int 7919)) (mBin dIx (mVar 0) (mC (.int 4))))) (mNil))) (mC (.int 48271))) (mNil))) (mC (.int 2147483647)))) (mSeq (mSet 2 (mBin dMod (mCall fInt (mCons (mBin dMul (mVar 2) (mBin dAdd (mBin dDiv (mVar 2) (mC (.int 1009))) (mC (.int 69621)))) (mNil))) (mC (.int 2147483647)))) (mSeq (mSet 2 (mBin dMod (mCall fInt (mCons (mBin dMul (mVar 2) (mBin dAdd (mBin dDiv (mVar 2) (mC (.int 2003))) (mC (.int 40692)))) (mNil))) (mC (.int 2147483399)))) (mRet (mBin dMod (mCall fInt (mCons (mBin dDiv (mVar 2) (mC (.int 16))) (mNil))) (mVar 1))))))))
noncomputable def m__law_draw : FL := mFun 5 b__law_draw
noncomputable def b__law_is (rec : FL) : MS := mSeq (mIfS (mTest (mIsi ["tuple", "list"] (mVar 1))) (mSeq (mIfS (mTest (mBin dNe (mIsi ["tuple"] (mVar 0)) (mIsi ["tuple"] (mVar 1)))) (mRet (mC (.bool false))) (mNext)) (mSeq (mIfS (mTest (mBin dNe (mIsi ["list"] (mVar 0)) (mIsi ["list"] (mVar 1)))) (mRet (mC (.bool false))) (mNext)) (mSeq (mIfS (mTest (mBin dNe (mCall fLen (mCons (mVar 0) (mNil))) (mCall fLen (mCons (mVar 1) (mNil))))) (mRet (mC (.bool false))) (mNext)) (mRet (mCall fAll (mCons (mLc .data (.nm 2) (mIta kRng1 (mCons (mCall fLen (mCons (mVar 1) (mNil))) (mNil))) (mYes) (mApp 2 rec (mCons (mBin dIx (mVar 0) (mVar 2)) (mCons (mBin dIx (mVar 1) (mVar 2)) (mNil)))) [2]) (mNil))))))) (mNext)) (mSeq (mIfS (mTest (mBin (dIs false) (mVar 1) (mC .none))) (mRet (mBin (dIs false) (mVar 0) (mC .none))) (mNext)) (mSeq (mIfS (mtOr (mTest (mBin dNe (mIsi ["bool"] (mVar 0)) (mIsi ["bool"] (mVar 1)))) (mTest (mBin dNe (mIsi ["int"] (mVar 0)) (mIsi ["int"] (mVar 1))))) (mRet (mC (.bool false))) (mNext)) (mRet (mAnd (mBin dEq (mIsi ["str"] (mVar 0)) (mIsi ["str"] (mVar 1))) (mBin dEq (mVar 0) (mVar 1))))))
noncomputable def m__law_is : Nat → FL
  | 0 => mFun 3 mNever
  | k + 1 => mFun 3 (b__law_is (m__law_is k))
noncomputable def b__law_is_int : MS := mRet (mAnd (mIsi ["int"] (mVar 0)) (mNot (mIsi ["bool"] (mVar 0))))
noncomputable def m__law_is_int : FL := mFun 1 b__law_is_int
noncomputable def b__law_word (th : Hep → Out Val) : MS := mSeq (mSet 1 (mC (.str "told"))) (mSeq (mDead [2, 3] (mTryAs kn "SchoolError" 2 (mDrop (mThk th)) (mSeq (mSet 3 (mLst (mCons (mIsE kn "NoNumber" (mVar 2)) (mCons (mIsE kn "NoTimes" (mVar 2)) (mNil))))) (mSeq (mSet 1 (mC (.str "other"))) (mIfS (mtAnd (mTest (mBin dEq (mMeth ["list", "tuple", "str"] fCount (mVar 3) (mCons (mC (.bool true)) (mNil))) (mC (.int 1)))) (mTest (mIsE kn "ValueError" (mVar 2)))) (mSet 1 (mBin dIx (mLst (mCons (mC (.str "number")) (mCons (mC (.str "times")) (mNil)))) (mMeth ["list", "tuple"] fIndex (mVar 3) (mCons (mC (.bool true)) (mNil))))) (mNext)))))) (mRet (mVar 1)))
noncomputable def m__law_word : (Hep → Out Val) → FL := fun th => mFun 4 (b__law_word th)
noncomputable def L__law_orders_1 : MS := mDead [4] (mDrop (mMeth ["list"] fExtend (mVar 3) (mCons (mLc .data (.nm 5) (mIta kRng1 (mCons (mVar 0) (mNil))) (mTest (mBin (dIn true) (mVar 5) (mVar 4))) (mBin dAdd (mVar 4) (mTup (mCons (mVar 5) (mNil)))) [5]) (mNil))))
noncomputable def L__law_orders_2 : MS := mDead [2, 3, 4] (mSeq (mSet 3 (mCel (mNil))) (mSeq (mDead [4] (mFor (.nm 4) (mIt (mVar 1)) (L__law_orders_1))) (mSet 1 (mFrz (mVar 3)))))
noncomputable def b__law_orders : MS := mSeq (mSet 1 (mLst (mCons (mTup (mNil)) (mNil)))) (mSeq (mDead [2, 3, 4] (mFor (.nm 2) (mIta kRng1 (mCons (mVar 0) (mNil))) (L__law_orders_2))) (mRet (mVar 1)))
noncomputable def m__law_orders : FL := mFun 6 b__law_orders
noncomputable def b__law_sum : MS := mRet (mCall fSum (mCons (mLc .data (.tup [.nm 2, .nm 3]) (mIta kEnum (mCons (mVar 1) (mNil))) (mYes) (mBin dIx (mBin dIx (mVar 0) (mVar 2)) (mVar 3)) [2, 3]) (mNil)))
noncomputable def m__law_sum : FL := mFun 4 b__law_sum
noncomputable def b_is_within : MS := mRet (mAnd (mApp 1 m_is_integer (mCons (mVar 0) (mNil))) (mChain dLe dLe (mVar 1) (mVar 0) (mVar 2)))
noncomputable def m_is_within : FL := mFun 3 b_is_within
noncomputable def b_is_order : MS := mSeq (mIfS (mtOr (mtNot (mTest (mApp 3 m_is_sized (mCons (mVar 0) (mCons (mVar 1) (mCons (mVar 1) (mNil))))))) (mtNot (mTest (mCall fAll (mCons (mLc .data (.nm 2) (mIt (mVar 0)) (mYes) (mApp 1 m_is_integer (mCons (mVar 2) (mNil))) [2]) (mNil)))))) (mRet (mC (.bool false))) (mNext)) (mRet (mBin dEq (mCall fSorted (mCons (mVar 0) (mNil))) (mOne kLRg1 (mVar 1))))
noncomputable def m_is_order : FL := mFun 3 b_is_order
noncomputable def b_raw_best_relay : MS := mRet (mCall fMin (mCons (mLc .data (.nm 1) (mIt (mApp 1 m_all_orders (mCons (mCall fLen (mCons (mVar 0) (mNil))) (mNil)))) (mYes) (mTup (mCons (mApp 2 m_relay_sum (mCons (mVar 0) (mCons (mVar 1) (mNil)))) (mCons (mVar 1) (mNil)))) [1]) (mNil)))
noncomputable def m_raw_best_relay : FL := mFun 2 b_raw_best_relay
noncomputable def b_are_integers_of : MS := mRet (mAnd (mApp 3 m_is_sized (mCons (mVar 0) (mCons (mVar 1) (mCons (mVar 1) (mNil))))) (mCall fAll (mCons (mLc .data (.nm 2) (mIt (mVar 0)) (mYes) (mApp 1 m_is_integer (mCons (mVar 2) (mNil))) [2]) (mNil))))
noncomputable def m_are_integers_of : FL := mFun 3 b_are_integers_of
noncomputable def b__law_some : MS := mRet (mBin dIx (mVar 1) (mApp 2 m__law_draw (mCons (mVar 0) (mCons (mCall fLen (mCons (mVar 1) (mNil))) (mNil)))))
noncomputable def m__law_some : FL := mFun 2 b__law_some
noncomputable def L__law_deep_1 : MS := mDead [2] (mSet 1 (mIf (mTest (mBin dEq (mApp 2 m__law_draw (mCons (mVar 0) (mCons (mC (.int 2)) (mNil)))) (mC (.int 0)))) (mTup (mCons (mC (.str "?")) (mCons (mVar 1) (mNil)))) (mLst (mCons (mVar 1) (mNil)))))
noncomputable def b__law_deep : MS := mSeq (mSet 1 (mC (.str "?"))) (mSeq (mDead [2] (mFor (.nm 2) (mIta kRng1 (mCons (mApp 2 m__law_draw (mCons (mVar 0) (mCons (mC (.int 30)) (mNil)))) (mNil))) (L__law_deep_1))) (mRet (mVar 1)))
noncomputable def m__law_deep : FL := mFun 3 b__law_deep
noncomputable def b__law_is_row : MS := mSeq (mIfS (mtOr (mtNot (mTest (mIsi ["tuple"] (mVar 0)))) (mTest (mBin dNe (mCall fLen (mCons (mVar 0) (mNil))) (mVar 1)))) (mRet (mC (.bool false))) (mNext)) (mRet (mCall fAll (mCons (mLc .data (.nm 4) (mIt (mVar 0)) (mYes) (mAnd (mApp 1 m__law_is_int (mCons (mVar 4) (mNil))) (mChain dLe dLe (mVar 2) (mVar 4) (mVar 3))) [4]) (mNil))))
noncomputable def m__law_is_row : FL := mFun 5 b__law_is_row
noncomputable def b__law_are_ints : MS := mRet (mAnd (mIsi ["tuple"] (mVar 0)) (mAnd (mBin dEq (mCall fLen (mCons (mVar 0) (mNil))) (mVar 1)) (mCall fAll (mCons (mLc .data (.nm 2) (mIt (mVar 0)) (mYes) (mApp 1 m__law_is_int (mCons (mVar 2) (mNil))) [2]) (mNil)))))
noncomputable def m__law_are_ints : FL := mFun 3 b__law_are_ints
noncomputable def b_check_times : MS := mSeq (mIfS (mtOr (mtNot (mTest (mApp 3 m_is_sized (mCons (mVar 0) (mCons (mC (.int 1)) (mCons (mC c_MOST_LEGS) (mNil))))))) (mtNot (mTest (mCall fAll (mCons (mLc .data (.nm 1) (mIt (mVar 0)) (mYes) (mApp 3 m_is_sized (mCons (mVar 1) (mCons (mCall fLen (mCons (mVar 0) (mNil))) (mCons (mCall fLen (mCons (mVar 0) (mNil))) (mNil))))) [1]) (mNil)))))) (mRaise "NoTimes") (mNext)) (mIfS (mtNot (mTest (mCall fAll (mCons (mLc .data (.nm 1) (mIt (mVar 0)) (mYes) (mCall fAll (mCons (mLc .data (.nm 2) (mIt (mVar 1)) (mYes) (mApp 3 m_is_within (mCons (mVar 2) (mCons (mC (.int 0)) (mCons (mC c_MOST_LEG_TIME) (mNil))))) [2]) (mNil))) [1]) (mNil))))) (mRaise "NoTimes") (mNext))
noncomputable def m_check_times : FL := mFun 3 b_check_times
noncomputable def L__law_is_told_1 : MS := mDead [4, 5] (mIfS (mtNot (mTest (mCall fAll (mCons (mLc .data (.tup [.nm 6, .nm 7]) (mIta kZip (mCons (mVar 4) (mCons (mBin dIx (mVar 2) (mC (.int 2))) (mNil)))) (mYes) (mBin dLe (mBin dAdd (mVar 5) (mVar 7)) (mVar 6)) [6, 7]) (mNil))))) (mRet (mC (.bool false))) (mNext))
noncomputable def b__law_is_told : MS := mSeq (mSet 3 (mCall fLen (mCons (mVar 0) (mNil)))) (mSeq (mIfS (mtOr (mtNot (mTest (mIsi ["tuple"] (mVar 2)))) (mtOr (mTest (mBin (dIn true) (mCall fLen (mCons (mVar 2) (mNil))) (mTup (mCons (mC (.int 2)) (mCons (mC (.int 3)) (mNil)))))) (mtNot (mTest (mIsi ["str"] (mBin dIx (mVar 2) (mC (.int 0)))))))) (mRet (mC (.bool false))) (mNext)) (mSeq (mIfS (mTest (mBin dEq (mBin dIx (mVar 2) (mC (.int 0))) (mC (.str "relay")))) (mSeq (mIfS (mTest (mBin dNe (mCall fLen (mCons (mVar 2) (mNil))) (mC (.int 2)))) (mRet (mC (.bool false))) (mNext)) (mSeq (mIfS (mtNot (mTest (mApp 4 m__law_is_row (mCons (mBin dIx (mVar 2) (mC (.int 1))) (mCons (mVar 3) (mCons (mC (.int 0)) (mCons (mBin dSub (mVar 3) (mC (.int 1))) (mNil)))))))) (mRet (mC (.bool false))) (mNext)) (mSeq (mIfS (mTest (mBin dNe (mCall fSorted (mCons (mBin dIx (mVar 2) (mC (.int 1))) (mNil))) (mOne kLRg1 (mVar 3)))) (mRet (mC (.bool false))) (mNext)) (mRet (mBin dLe (mApp 2 m__law_sum (mCons (mVar 0) (mCons (mBin dIx (mVar 2) (mC (.int 1))) (mNil)))) (mVar 1)))))) (mNext)) (mSeq (mIfS (mTest (mBin dNe (mBin dIx (mVar 2) (mC (.int 0))) (mC (.str "prices")))) (mRet (mC (.bool false))) (mNext)) (mSeq (mIfS (mTest (mBin dNe (mCall fLen (mCons (mVar 2) (mNil))) (mC (.int 3)))) (mRet (mC (.bool false))) (mNext)) (mSeq (mIfS (mtNot (mTest (mApp 2 m__law_are_ints (mCons (mBin dIx (mVar 2) (mC (.int 1))) (mCons (mVar 3) (mNil)))))) (mRet (mC (.bool false))) (mNext)) (mSeq (mIfS (mtNot (mTest (mApp 2 m__law_are_ints (mCons (mBin dIx (mVar 2) (mC (.int 2))) (mCons (mVar 3) (mNil)))))) (mRet (mC (.bool false))) (mNext)) (mSeq (mDead [4, 5] (mFor (.tup [.nm 4, .nm 5]) (mIta kZip (mCons (mVar 0) (mCons (mBin dIx (mVar 2) (mC (.int 1))) (mNil)))) (L__law_is_told_1))) (mRet (mBin dGt (mBin dAdd (mCall fSum (mCons (mBin dIx (mVar 2) (mC (.int 1))) (mNil))) (mCall fSum (mCons (mBin dIx (mVar 2) (mC (.int 2))) (mNil)))) (mVar 1))))))))))
noncomputable def m__law_is_told : FL := mFun 8 b__law_is_told
noncomputable def I__law_things_1 : MS := mDead [8, 9, 10] (mIfS (mTest (mBin dEq (mBin dIx (mVar 2) (mC (.int 0))) (mC (.str "prices")))) (mSeq (mParN [8, 9, 10] (mCons (mApp 2 m__law_draw (mCons (mVar 0) (mCons (mVar 6) (mNil)))) (mCons (mBin dIx (mVar 2) (mC (.int 1))) (mCons (mBin dIx (mVar 2) (mC (.int 2))) (mNil))))) (mSeq (mSet 5 (mBin dAddC (mVar 5) (mLst (mCons (mTup (mCons (mC (.str "prices")) (mCons (mVar 10) (mCons (mVar 9) (mNil))))) (mCons (mTup (mCons (mC (.str "prices")) (mCons (mCall fList (mCons (mVar 9) (mNil))) (mCons (mVar 10) (mNil))))) (mCons (mTup (mCons (mC (.str "prices")) (mCons (mVar 9) (mCons (mSl (mVar 10) (mPart (mC (.int 1))) mNoPart) (mNil))))) (mNil))))))) (mSeq (mDrop (mMeth ["list"] fAppend (mVar 5) (mCons (mTup (mCons (mC (.str "prices")) (mCons (mBin dAdd (mBin dAdd (mSl (mVar 9) mNoPart (mPart (mVar 8))) (mTup (mCons (mBin dAdd (mBin dIx (mVar 9) (mVar 8)) (mC (.int 1))) (mNil)))) (mSl (mVar 9) (mPart (mBin dAdd (mVar 8) (mC (.int 1)))) mNoPart)) (mCons (mVar 10) (mNil))))) (mNil)))) (mSeq (mDrop (mMeth ["list"] fAppend (mVar 5) (mCons (mTup (mCons (mC (.str "prices")) (mCons (mBin dAdd (mBin dAdd (mSl (mVar 9) mNoPart (mPart (mVar 8))) (mTup (mCons (mBin dSub (mBin dIx (mVar 9) (mVar 8)) (mC (.int 1))) (mNil)))) (mSl (mVar 9) (mPart (mBin dAdd (mVar 8) (mC (.int 1)))) mNoPart)) (mCons (mVar 10) (mNil))))) (mNil)))) (mSeq (mDrop (mMeth ["list"] fAppend (mVar 5) (mCons (mTup (mCons (mC (.str "prices")) (mCons (mCall fTuple (mCons (mLc .data (.nm 12) (mIt (mVar 9)) (mYes) (mBin dAdd (mVar 12) (mC (.int 3))) [12]) (mNil))) (mCons (mCall fTuple (mCons (mLc .data (.nm 12) (mIt (mVar 10)) (mYes) (mBin dSub (mVar 12) (mC (.int 3))) [12]) (mNil))) (mNil))))) (mNil)))) (mDrop (mMeth ["list"] fAppend (mVar 5) (mCons (mTup (mCons (mC (.str "prices")) (mCons (mBin dAdd (mBin dAdd (mSl (mVar 9) mNoPart (mPart (mVar 8))) (mTup (mCons (mVar 7) (mNil)))) (mSl (mVar 9) (mPart (mBin dAdd (mVar 8) (mC (.int 1)))) mNoPart)) (mCons (mVar 10) (mNil))))) (mNil))))))))) (mNext))
noncomputable def b__law_things : MS := mSeq (mPar 6 7 (mCons (mCall fLen (mCons (mVar 1) (mNil))) (mCons (mApp 2 m__law_some (mCons (mVar 0) (mCons (mLst (mCons (mC .none) (mCons (mC (.bool true)) (mCons (mC (.str "?")) (mCons (mNeg (mC (.int 1))) (mCons (mC (.int 6)) (mCons (mTup (mCons (mC (.int 0)) (mNil))) (mNil)))))))) (mNil)))) (mNil)))) (mSeq (mSet 3 (mApp 2 m__law_some (mCons (mVar 0) (mCons (mApp 1 m__law_orders (mCons (mVar 6) (mNil))) (mNil))))) (mSeq (mSet 4 (mCall fTuple (mCons (mLc .data (.nm 11) (mIt (mVar 1)) (mYes) (mCall fMin (mCons (mVar 11) (mNil))) [11]) (mNil)))) (mSeq (mSet 5 (mCel (mCons (mVar 2) (mCons (mCall fList (mCons (mVar 2) (mNil))) (mCons (mSl (mVar 2) mNoPart (mPart (mC (.int 1)))) (mCons (mBin dAdd (mVar 2) (mTup (mCons (mC (.int 0)) (mNil)))) (mCons (mTup (mCons (mC (.str "relay")) (mCons (mVar 3) (mNil)))) (mCons (mTup (mCons (mC (.str "relay")) (mCons (mCall fList (mCons (mVar 3) (mNil))) (mNil)))) (mCons (mTup (mCons (mC (.str "relay")) (mCons (mSl (mVar 3) (mPart (mC (.int 1))) mNoPart) (mNil)))) (mCons (mC .none) (mCons (mC (.int 5)) (mCons (mC (.dict [])) (mNil))))))))))))) (mSeq (mSet 5 (mBin dAddC (mVar 5) (mLst (mCons (mTup (mCons (mC (.str "relay")) (mCons (mBin dAdd (mVar 3) (mTup (mCons (mVar 7) (mNil)))) (mNil)))) (mCons (mTup (mCons (mC (.str "relay")) (mCons (mBin dAdd (mTup (mCons (mVar 7) (mNil))) (mSl (mVar 3) (mPart (mC (.int 1))) mNoPart)) (mNil)))) (mCons (mTup (mCons (mC (.str "prices")) (mCons (mVar 4) (mCons (mBin dMul (mTup (mCons (mC (.int 0)) (mNil))) (mVar 6)) (mNil))))) (mCons (mApp 1 m__law_deep (mCons (mVar 0) (mNil))) (mNil)))))))) (mSeq (mSet 5 (mBin dAddC (mVar 5) (mLst (mCons (mTup (mCons (mC (.str "prices")) (mCons (mVar 4) (mCons (mBin dMul (mTup (mCons (mC (.int 1)) (mNil))) (mVar 6)) (mNil))))) (mCons (mTup (mCons (mC (.str "prices")) (mCons (mVar 4) (mNil)))) (mCons (mTup (mCons (mC (.str "prices")) (mCons (mVar 4) (mCons (mBin dMul (mTup (mCons (mC (.int 0)) (mNil))) (mVar 6)) (mCons (mC (.int 0)) (mNil)))))) (mCons (mTup (mCons (mVar 7) (mCons (mVar 3) (mNil)))) (mNil)))))))) (mSeq (I__law_things_1) (mRet (mFrz (mVar 5)))))))))
noncomputable def m__law_things : FL := mFun 13 b__law_things
noncomputable def b_best_relay : MS := mSeq (mDrop (mApp 1 m_check_times (mCons (mVar 0) (mNil)))) (mRet (mApp 1 m_raw_best_relay (mCons (mVar 0) (mNil))))
noncomputable def m_best_relay : FL := mFun 1 b_best_relay
noncomputable def b_check_most : MS := mSeq (mDrop (mApp 1 m_check_times (mCons (mVar 0) (mNil)))) (mIfS (mtOr (mtNot (mTest (mApp 1 m_is_integer (mCons (mVar 1) (mNil))))) (mTest (mBin dLt (mVar 1) (mC (.int 0))))) (mRaise "NoNumber") (mNext))
noncomputable def m_check_most : FL := mFun 2 b_check_most
noncomputable def b_relay_told : MS := mSeq (mDrop (mApp 2 m_check_most (mCons (mVar 0) (mCons (mVar 1) (mNil))))) (mSeq (mAsg (.tup [.nm 2, .nm 3]) (mApp 1 m_raw_best_relay (mCons (mVar 0) (mNil)))) (mRet (mIf (mTest (mBin dLe (mVar 2) (mVar 1))) (mTup (mCons (mC c_RELAY) (mCons (mVar 3) (mNil)))) (mBin dAdd (mTup (mCons (mC c_PRICES) (mNil))) (mApp 2 m_prices_by (mCons (mVar 0) (mCons (mVar 3) (mNil))))))))
noncomputable def m_relay_told : FL := mFun 4 b_relay_told
noncomputable def L_is_relay_told_1 : MS := mDead [4, 5] (mIfS (mTest (mCall fAny (mCons (mLc .data (.tup [.nm 6, .nm 7]) (mIta kZip (mCons (mVar 4) (mCons (mBin dIx (mVar 2) (mC (.int 2))) (mNil)))) (mYes) (mBin dGt (mBin dAdd (mVar 5) (mVar 7)) (mVar 6)) [6, 7]) (mNil)))) (mRet (mC (.bool false))) (mNext))
noncomputable def b_is_relay_told : MS := mSeq (mDrop (mApp 2 m_check_most (mCons (mVar 0) (mCons (mVar 1) (mNil))))) (mSeq (mSet 3 (mCall fLen (mCons (mVar 0) (mNil)))) (mSeq (mIfS (mtOr (mtNot (mTest (mApp 3 m_is_sized (mCons (mVar 2) (mCons (mC (.int 2)) (mCons (mC (.int 3)) (mNil))))))) (mtNot (mTest (mIsi ["str"] (mBin dIx (mVar 2) (mC (.int 0))))))) (mRet (mC (.bool false))) (mNext)) (mSeq (mIfS (mtAnd (mTest (mBin dEq (mBin dIx (mVar 2) (mC (.int 0))) (mC c_RELAY))) (mTest (mBin dEq (mCall fLen (mCons (mVar 2) (mNil))) (mC (.int 2))))) (mRet (mAnd (mApp 2 m_is_order (mCons (mBin dIx (mVar 2) (mC (.int 1))) (mCons (mVar 3) (mNil)))) (mBin dLe (mApp 2 m_relay_sum (mCons (mVar 0) (mCons (mBin dIx (mVar 2) (mC (.int 1))) (mNil)))) (mVar 1)))) (mNext)) (mSeq (mIfS (mtOr (mTest (mBin dNe (mBin dIx (mVar 2) (mC (.int 0))) (mC c_PRICES))) (mtOr (mTest (mBin dNe (mCall fLen (mCons (mVar 2) (mNil))) (mC (.int 3)))) (mtNot (mTest (mCall fAll (mCons (mLc .data (.nm 4) (mIt (mSl (mVar 2) (mPart (mC (.int 1))) mNoPart)) (mYes) (mApp 2 m_are_integers_of (mCons (mVar 4) (mCons (mVar 3) (mNil)))) [4]) (mNil))))))) (mRet (mC (.bool false))) (mNext)) (mSeq (mDead [4, 5] (mFor (.tup [.nm 4, .nm 5]) (mIta kZip (mCons (mVar 0) (mCons (mBin dIx (mVar 2) (mC (.int 1))) (mNil)))) (L_is_relay_told_1))) (mRet (mBin dGt (mBin dAdd (mCall fSum (mCons (mBin dIx (mVar 2) (mC (.int 1))) (mNil))) (mCall fSum (mCons (mBin dIx (mVar 2) (mC (.int 2))) (mNil)))) (mVar 1))))))))
noncomputable def m_is_relay_told : FL := mFun 8 b_is_relay_told
noncomputable def L__law_is_right_1 : MS := mDead [6, 7] (mSeq (mSet 7 (mApp 3 m__law_is_told (mCons (mVar 1) (mCons (mVar 4) (mCons (mVar 6) (mNil)))))) (mSeq (mIfS (mtNot (mTest (mApp 2 (m__law_is 40) (mCons (mApp 3 m_is_relay_told (mCons (mVar 1) (mCons (mVar 4) (mCons (mVar 6) (mNil))))) (mCons (mVar 7) (mNil)))))) (mRet (mC (.bool false))) (mNext)) (mIfS (mtAnd (mTest (mVar 7)) (mTest (mBin dNe (mBin dIx (mVar 6) (mC (.int 0))) (mBin dIx (mVar 5) (mC (.int 0)))))) (mRet (mC (.bool false))) (mNext))))
noncomputable def L__law_is_right_2 : MS := mDead [4, 5, 6, 7] (mSeq (mSet 5 (mApp 2 m_relay_told (mCons (mVar 1) (mCons (mVar 4) (mNil))))) (mSeq (mIfS (mtOr (mtNot (mTest (mApp 3 m__law_is_told (mCons (mVar 1) (mCons (mVar 4) (mCons (mVar 5) (mNil))))))) (mTest (mBin dNe (mBin dEq (mBin dIx (mVar 5) (mC (.int 0))) (mC (.str "relay"))) (mBin dLe (mBin dIx (mVar 3) (mC (.int 0))) (mVar 4))))) (mRet (mC (.bool false))) (mNext)) (mFor (.nm 6) (mIt (mApp 3 m__law_things (mCons (mVar 0) (mCons (mVar 1) (mCons (mVar 5) (mNil)))))) (L__law_is_right_1))))
noncomputable def b__law_is_right : MS := mSeq (mSet 2 (mApp 1 m__law_orders (mCons (mCall fLen (mCons (mVar 1) (mNil))) (mNil)))) (mSeq (mSet 3 (mCall fMin (mCons (mLc .data (.nm 8) (mIt (mVar 2)) (mYes) (mTup (mCons (mApp 2 m__law_sum (mCons (mVar 1) (mCons (mVar 8) (mNil)))) (mCons (mVar 8) (mNil)))) [8]) (mNil)))) (mSeq (mIfS (mtNot (mTest (mApp 2 (m__law_is 40) (mCons (mApp 1 m_best_relay (mCons (mVar 1) (mNil))) (mCons (mVar 3) (mNil)))))) (mRet (mC (.bool false))) (mNext)) (mSeq (mDead [4, 5, 6, 7] (mFor (.nm 4) (mIt (mTup (mCons (mBin dIx (mVar 3) (mC (.int 0))) (mCons (mCall fMax (mCons (mC (.int 0)) (mCons (mBin dSub (mBin dIx (mVar 3) (mC (.int 0))) (mC (.int 1))) (mNil)))) (mCons (mApp 2 m__law_draw (mCons (mVar 0) (mCons (mBin dAdd (mBin dIx (mVar 3) (mC (.int 0))) (mC (.int 5))) (mNil)))) (mNil)))))) (L__law_is_right_2))) (mRet (mC (.bool true))))))
noncomputable def m__law_is_right : FL := mFun 9 b__law_is_right
noncomputable def L_law_1 : MS := mDead [2, 4, 5, 6, 7, 8, 9] (mSeq (mParN [8, 9] (mCons (mBin dAdd (mC (.int 1)) (mApp 2 m__law_draw (mCons (mVar 1) (mCons (mC (.int 5)) (mNil))))) (mCons (mApp 2 m__law_some (mCons (mVar 1) (mCons (mLst (mCons (mC (.int 2)) (mCons (mC (.int 5)) (mCons (mC (.int 1001)) (mNil))))) (mNil)))) (mNil)))) (mSeq (mSet 2 (mCall fTuple (mCons (mLc .data (.nm 10) (mIta kRng1 (mCons (mVar 8) (mNil))) (mYes) (mCall fTuple (mCons (mLc .data (.nm 11) (mIta kRng1 (mCons (mVar 8) (mNil))) (mYes) (mApp 2 m__law_draw (mCons (mVar 1) (mCons (mVar 9) (mNil)))) [11]) (mNil))) [10]) (mNil)))) (mSeq (mIfS (mtNot (mTest (mApp 2 m__law_is_right (mCons (mVar 1) (mCons (mVar 2) (mNil)))))) (mRet (mC (.bool false))) (mNext)) (mSeq (mSet 5 (mApp 2 m__law_some (mCons (mVar 1) (mCons (mLst (mCons (mC .none) (mCons (mTup (mNil)) (mCons (mLst (mCons (mTup (mCons (mC (.int 1)) (mNil))) (mNil))) (mCons (mTup (mCons (mTup (mNil)) (mNil))) (mCons (mTup (mCons (mTup (mCons (mC (.int 1)) (mCons (mC (.int 2)) (mNil)))) (mNil))) (mCons (mTup (mCons (mTup (mCons (mC (.int 1)) (mNil))) (mCons (mTup (mCons (mC (.int 2)) (mNil))) (mNil)))) (mCons (mTup (mCons (mTup (mCons (mC (.int 1001)) (mNil))) (mNil))) (mCons (mTup (mCons (mTup (mCons (mNeg (mC (.int 1))) (mNil))) (mNil))) (mCons (mTup (mCons (mTup (mCons (mC (.bool true)) (mNil))) (mNil))) (mCons (mTup (mCons (mTup (mCons (mC (.str "?")) (mNil))) (mNil))) (mCons (mC (.str "?")) (mNil))))))))))))) (mNil))))) (mSeq (mSet 5 (mApp 2 m__law_some (mCons (mVar 1) (mCons (mLst (mCons (mVar 5) (mCons (mBin dMul (mTup (mCons (mBin dMul (mTup (mCons (mC (.int 0)) (mNil))) (mC (.int 7))) (mNil))) (mC (.int 7))) (mCons (mTup (mCons (mLst (mCons (mC (.int 1)) (mNil))) (mNil))) (mCons (mApp 1 m__law_deep (mCons (mVar 1) (mNil))) (mNil)))))) (mNil))))) (mSeq (mSet 6 (mApp 2 m__law_some (mCons (mVar 1) (mCons (mLst (mCons (mNeg (mC (.int 1))) (mCons (mC .none) (mCons (mC (.bool true)) (mCons (mC (.str "?")) (mCons (mApp 1 m__law_deep (mCons (mVar 1) (mNil))) (mNil))))))) (mNil))))) (mSeq (mSet 7 (mCel (mCons (mLam m__law_word (mApp 2 m_relay_told (mCons (mVar 5) (mCons (mVar 6) (mNil))))) (mNil)))) (mSeq (mDrop (mMeth ["list"] fAppend (mVar 7) (mCons (mLam m__law_word (mApp 2 m_relay_told (mCons (mVar 2) (mCons (mVar 6) (mNil))))) (mNil)))) (mSeq (mDrop (mMeth ["list"] fAppend (mVar 7) (mCons (mLam m__law_word (mApp 1 m_best_relay (mCons (mVar 5) (mNil)))) (mNil)))) (mSeq (mDrop (mMeth ["list"] fAppend (mVar 7) (mCons (mLam m__law_word (mApp 3 m_is_relay_told (mCons (mVar 5) (mCons (mVar 6) (mCons (mC .none) (mNil)))))) (mNil)))) (mSeq (mDrop (mMeth ["list"] fAppend (mVar 7) (mCons (mLam m__law_word (mApp 3 m_is_relay_told (mCons (mVar 2) (mCons (mVar 6) (mCons (mC .none) (mNil)))))) (mNil)))) (mIfS (mTest (mBin dNe (mVar 7) (mLst (mCons (mC (.str "times")) (mCons (mC (.str "number")) (mCons (mC (.str "times")) (mCons (mC (.str "times")) (mCons (mC (.str "number")) (mNil))))))))) (mRet (mC (.bool false))) (mNext)))))))))))))
noncomputable def b_law : MS := mSeq (mSet 1 (mApp 1 m__law_hand (mCons (mVar 0) (mNil)))) (mSeq (mSet 2 (mTup (mCons (mTup (mCons (mC (.int 3)) (mCons (mC (.int 1)) (mNil)))) (mCons (mTup (mCons (mC (.int 2)) (mCons (mC (.int 2)) (mNil)))) (mNil))))) (mSeq (mSet 3 (mLst (mCons (mApp 1 m_best_relay (mCons (mVar 2) (mNil))) (mCons (mApp 2 m_relay_told (mCons (mVar 2) (mCons (mC (.int 3)) (mNil)))) (mCons (mApp 3 m_is_relay_told (mCons (mVar 2) (mCons (mC (.int 2)) (mCons (mTup (mCons (mC (.str "prices")) (mCons (mTup (mCons (mC (.int 1)) (mCons (mC (.int 2)) (mNil)))) (mCons (mTup (mCons (mC (.int 0)) (mCons (mC (.int 0)) (mNil)))) (mNil))))) (mNil))))) (mNil)))))) (mSeq (mIfS (mtNot (mTest (mApp 2 (m__law_is 40) (mCons (mVar 3) (mCons (mLst (mCons (mTup (mCons (mC (.int 3)) (mCons (mTup (mCons (mC (.int 1)) (mCons (mC (.int 0)) (mNil)))) (mNil)))) (mCons (mTup (mCons (mC (.str "relay")) (mCons (mTup (mCons (mC (.int 1)) (mCons (mC (.int 0)) (mNil)))) (mNil)))) (mCons (mC (.bool true)) (mNil))))) (mNil)))))) (mRet (mC (.bool false))) (mNext)) (mSeq (mDead [2, 4, 5, 6, 7, 8, 9] (mFor (.nm 4) (mIta kRng1 (mCons (mC (.int 3)) (mNil))) (L_law_1))) (mRet (mC (.bool true)))))))
noncomputable def m_law : FL := mFun 12 b_law
end K56
end K56m_

section K56d_
set_option linter.all false
set_option maxRecDepth 100000
set_option Elab.async false
namespace K56
open PySem PySem.Spec PyProof.Rows L2 Vi
def top (i : Nat) : Stmt := PySem.Challenge.pw_schoolyear_k56_whole_relays_or_prices.main.body.getD i (.Pass ⟨0, 0, 0, 0⟩)
abbrev s_is_integer : Stmt := top 1
abbrev s_is_sized : Stmt := top 3
abbrev s_all_orders : Stmt := top 5
abbrev s_relay_sum : Stmt := top 16
abbrev s_prices_by : Stmt := top 19
abbrev s__law_hand : Stmt := top 25
abbrev s__law_draw : Stmt := top 26
abbrev s__law_is : Stmt := top 28
abbrev s__law_is_int : Stmt := top 30
abbrev s__law_word : Stmt := top 32
abbrev s__law_orders : Stmt := top 33
abbrev s__law_sum : Stmt := top 34
abbrev s_is_within : Stmt := top 2
abbrev s_is_order : Stmt := top 4
abbrev s_raw_best_relay : Stmt := top 17
abbrev s_are_integers_of : Stmt := top 22
abbrev s__law_some : Stmt := top 27
abbrev s__law_deep : Stmt := top 29
abbrev s__law_is_row : Stmt := top 31
abbrev s__law_are_ints : Stmt := top 35
abbrev s_check_times : Stmt := top 15
abbrev s__law_is_told : Stmt := top 36
abbrev s__law_things : Stmt := top 37
abbrev s_best_relay : Stmt := top 18
abbrev s_check_most : Stmt := top 20
abbrev s_relay_told : Stmt := top 21
abbrev s_is_relay_told : Stmt := top 23
abbrev s__law_is_right : Stmt := top 38
abbrev s_law : Stmt := top 39
def q_law : Str := (envOfC "law" (defScope s_law) 0 0 .none).qual ++ "<lambda>"
def makers : List (Str × Str) := [("law", q_law)]
structure Fx (K : PySem.W.Frag) (mg : Str → Option Value) : Prop where
  b_ValueError : mg "ValueError" = none
  b_abs : mg "abs" = none
  b_all : mg "all" = none
  b_any : mg "any" = none
  b_bool : mg "bool" = none
  b_enumerate : mg "enumerate" = none
  b_int : mg "int" = none
  b_isinstance : mg "isinstance" = none
  b_len : mg "len" = none
  b_list : mg "list" = none
  b_max : mg "max" = none
  b_min : mg "min" = none
  b_range : mg "range" = none
  b_sorted : mg "sorted" = none
  b_str : mg "str" = none
  b_sum : mg "sum" = none
  b_tuple : mg "tuple" = none
  b_zip : mg "zip" = none
  c_MOST_LEGS : GloD K mg "MOST_LEGS" K56.c_MOST_LEGS
  c_MOST_LEG_TIME : GloD K mg "MOST_LEG_TIME" K56.c_MOST_LEG_TIME
  c_RELAY : GloD K mg "RELAY" K56.c_RELAY
  c_PRICES : GloD K mg "PRICES" K56.c_PRICES
  x_SchoolError : ExC K mg "SchoolError" (He.ga K "SchoolError")
  x_NoNumber : ExC K mg "NoNumber" (He.ga K "NoNumber")
  x_NoTimes : ExC K mg "NoTimes" (He.ga K "NoTimes")
  kn : ExcW K mg K56.kn
  d_is_integer : ∃ fd, FunD K "is_integer" "is_integer" (defArgs s_is_integer) (defBody s_is_integer) (defScope s_is_integer) [] [] (He.ga K "is_integer") fd
  g_is_integer : mg "is_integer" = some (.ref (He.ga K "is_integer"))
  d_is_sized : ∃ fd, FunD K "is_sized" "is_sized" (defArgs s_is_sized) (defBody s_is_sized) (defScope s_is_sized) [] [] (He.ga K "is_sized") fd
  g_is_sized : mg "is_sized" = some (.ref (He.ga K "is_sized"))
  d_all_orders : ∃ fd, FunD K "all_orders" "all_orders" (defArgs s_all_orders) (defBody s_all_orders) (defScope s_all_orders) [] [] (He.ga K "all_orders") fd
  g_all_orders : mg "all_orders" = some (.ref (He.ga K "all_orders"))
  d_relay_sum : ∃ fd, FunD K "relay_sum" "relay_sum" (defArgs s_relay_sum) (defBody s_relay_sum) (defScope s_relay_sum) [] [] (He.ga K "relay_sum") fd
  g_relay_sum : mg "relay_sum" = some (.ref (He.ga K "relay_sum"))
  d_prices_by : ∃ fd, FunD K "prices_by" "prices_by" (defArgs s_prices_by) (defBody s_prices_by) (defScope s_prices_by) [] [] (He.ga K "prices_by") fd
  g_prices_by : mg "prices_by" = some (.ref (He.ga K "prices_by"))
  d__law_hand : ∃ fd, FunD K "_law_hand" "_law_hand" (defArgs s__law_hand) (defBody s__law_hand) (defScope s__law_hand) [] [] (He.ga K "_law_hand") fd
  g__law_hand : mg "_law_hand" = some (.ref (He.ga K "_law_hand"))
  d__law_draw : ∃ fd, FunD K "_law_draw" "_law_draw" (defArgs s__law_draw) (defBody s__law_draw) (defScope s__law_draw) [] [] (He.ga K "_law_draw") fd
  g__law_draw : mg "_law_draw" = some (.ref (He.ga K "_law_draw"))
  d__law_is : ∃ fd, FunD K "_law_is" "_law_is" (defArgs s__law_is) (defBody s__law_is) (defScope s__law_is) [] [] (He.ga K "_law_is") fd
  g__law_is : mg "_law_is" = some (.ref (He.ga K "_law_is"))
  d__law_is_int : ∃ fd, FunD K "_law_is_int" "_law_is_int" (defArgs s__law_is_int) (defBody s__law_is_int) (defScope s__law_is_int) [] [] (He.ga K "_law_is_int") fd
  g__law_is_int : mg "_law_is_int" = some (.ref (He.ga K "_law_is_int"))
  d__law_word : ∃ fd, FunD K "_law_word" "_law_word" (defArgs s__law_word) (defBody s__law_word) (defScope s__law_word) [] [] (He.ga K "_law_word") fd
  g__law_word : mg "_law_word" = some (.ref (He.ga K "_law_word"))
  d__law_orders : ∃ fd, FunD K "_law_orders" "_law_orders" (defArgs s__law_orders) (defBody s__law_orders) (defScope s__law_orders) [] [] (He.ga K "_law_orders") fd
  g__law_orders : mg "_law_orders" = some (.ref (He.ga K "_law_orders"))
  d__law_sum : ∃ fd, FunD K "_law_sum" "_law_sum" (defArgs s__law_sum) (defBody s__law_sum) (defScope s__law_sum) [] [] (He.ga K "_law_sum") fd
  g__law_sum : mg "_law_sum" = some (.ref (He.ga K "_law_sum"))
  d_is_within : ∃ fd, FunD K "is_within" "is_within" (defArgs s_is_within) (defBody s_is_within) (defScope s_is_within) [] [] (He.ga K "is_within") fd
  g_is_within : mg "is_within" = some (.ref (He.ga K "is_within"))
  d_is_order : ∃ fd, FunD K "is_order" "is_order" (defArgs s_is_order) (defBody s_is_order) (defScope s_is_order) [] [] (He.ga K "is_order") fd
  g_is_order : mg "is_order" = some (.ref (He.ga K "is_order"))
  d_raw_best_relay : ∃ fd, FunD K "raw_best_relay" "raw_best_relay" (defArgs s_raw_best_relay) (defBody s_raw_best_relay) (defScope s_raw_best_relay) [] [] (He.ga K "raw_best_relay") fd
  g_raw_best_relay : mg "raw_best_relay" = some (.ref (He.ga K "raw_best_relay"))
  d_are_integers_of : ∃ fd, FunD K "are_integers_of" "are_integers_of" (defArgs s_are_integers_of) (defBody s_are_integers_of) (defScope s_are_integers_of) [] [] (He.ga K "are_integers_of") fd
  g_are_integers_of : mg "are_integers_of" = some (.ref (He.ga K "are_integers_of"))
  d__law_some : ∃ fd, FunD K "_law_some" "_law_some" (defArgs s__law_some) (defBody s__law_some) (defScope s__law_some) [] [] (He.ga K "_law_some") fd
  g__law_some : mg "_law_some" = some (.ref (He.ga K "_law_some"))
  d__law_deep : ∃ fd, FunD K "_law_deep" "_law_deep" (defArgs s__law_deep) (defBody s__law_deep) (defScope s__law_deep) [] [] (He.ga K "_law_deep") fd
  g__law_deep : mg "_law_deep" = some (.ref (He.ga K "_law_deep"))
  d__law_is_row : ∃ fd, FunD K "_law_is_row" "_law_is_row" (defArgs s__law_is_row) (defBody s__law_is_row) (defScope s__law_is_row) [] [] (He.ga K "_law_is_row") fd
  g__law_is_row : mg "_law_is_row" = some (.ref (He.ga K "_law_is_row"))
  d__law_are_ints : ∃ fd, FunD K "_law_are_ints" "_law_are_ints" (defArgs s__law_are_ints) (defBody s__law_are_ints) (defScope s__law_are_ints) [] [] (He.ga K "_law_are_ints") fd
  g__law_are_ints : mg "_law_are_ints" = some (.ref (He.ga K "_law_are_ints"))
  d_check_times : ∃ fd, FunD K "check_times" "check_times" (defArgs s_check_times) (defBody s_check_times) (defScope s_check_times) [] [] (He.ga K "check_times") fd
  g_check_times : mg "check_times" = some (.ref (He.ga K "check_times"))
  d__law_is_told : ∃ fd, FunD K "_law_is_told" "_law_is_told" (defArgs s__law_is_told) (defBody s__law_is_told) (defScope s__law_is_told) [] [] (He.ga K "_law_is_told") fd
  g__law_is_told : mg "_law_is_told" = some (.ref (He.ga K "_law_is_told"))
  d__law_things : ∃ fd, FunD K "_law_things" "_law_things" (defArgs s__law_things) (defBody s__law_things) (defScope s__law_things) [] [] (He.ga K "_law_things") fd
  g__law_things : mg "_law_things" = some (.ref (He.ga K "_law_things"))
  d_best_relay : ∃ fd, FunD K "best_relay" "best_relay" (defArgs s_best_relay) (defBody s_best_relay) (defScope s_best_relay) [] [] (He.ga K "best_relay") fd
  g_best_relay : mg "best_relay" = some (.ref (He.ga K "best_relay"))
  d_check_most : ∃ fd, FunD K "check_most" "check_most" (defArgs s_check_most) (defBody s_check_most) (defScope s_check_most) [] [] (He.ga K "check_most") fd
  g_check_most : mg "check_most" = some (.ref (He.ga K "check_most"))
  d_relay_told : ∃ fd, FunD K "relay_told" "relay_told" (defArgs s_relay_told) (defBody s_relay_told) (defScope s_relay_told) [] [] (He.ga K "relay_told") fd
  g_relay_told : mg "relay_told" = some (.ref (He.ga K "relay_told"))
  d_is_relay_told : ∃ fd, FunD K "is_relay_told" "is_relay_told" (defArgs s_is_relay_told) (defBody s_is_relay_told) (defScope s_is_relay_told) [] [] (He.ga K "is_relay_told") fd
  g_is_relay_told : mg "is_relay_told" = some (.ref (He.ga K "is_relay_told"))
  d__law_is_right : ∃ fd, FunD K "_law_is_right" "_law_is_right" (defArgs s__law_is_right) (defBody s__law_is_right) (defScope s__law_is_right) [] [] (He.ga K "_law_is_right") fd
  g__law_is_right : mg "_law_is_right" = some (.ref (He.ga K "_law_is_right"))
  d_law : ∃ fd, FunD K "law" "law" (defArgs s_law) (defBody s_law) (defScope s_law) [] [] (He.ga K "law") fd
  g_law : mg "law" = some (.ref (He.ga K "law"))
  tb : (makers.map fun r => (He.cT K (r.1, none)).2).Nodup
section
variable {P : Program} {w : World} {K : PySem.W.Frag} {mg : Str → Option Value} {base : Heap} {T : List (Addr × Str)}
theorem mk_law : (("law" : Str), q_law) ∈ makers := by simp [makers]
theorem sc_is_integer : FnScope ["thing"] ["thing"] (defScope s_is_integer) := C8.fnScope_by (by kernel_rfl)
theorem fn_is_integer (F : Fx K mg) : Fn P w K mg base T 1 "is_integer" 1 m_is_integer := by
  obtain ⟨fd, D⟩ := F.d_is_integer
  refine Fn.of (k := 0) D F.g_is_integer sc_is_integer rfl (fun _ _ _ _ _ _ us hl => match us, hl with | [_], _ => rfl) fun G hG cdv A outer s H E hr => ?_
  subst hG
  have hu := hr.units
  have nd := (sc_is_integer).nd
  have tk := takes_of (X := cxOf (L2.CX P w) P w K mg base ["thing"] "is_integer" (defScope s_is_integer) (He.ga K "is_integer") cdv A outer s H E) rfl rfl rfl rfl
  exact ss_one (s_ret (e_and (e_isi cls_int (e_var (i := 0) rfl (vis_by rfl)) rfl F.b_isinstance (pe_bltTy rfl F.b_int boot_int)) (e_one (e_not (e_isi cls_bool (e_var (i := 0) rfl (vis_by rfl)) rfl F.b_isinstance (pe_bltTy rfl F.b_bool boot_bool))))))
theorem sc_is_sized : FnScope ["thing", "low", "high"] ["thing", "low", "high"] (defScope s_is_sized) := C8.fnScope_by (by kernel_rfl)
theorem fn_is_sized (F : Fx K mg) : Fn P w K mg base T 1 "is_sized" 3 m_is_sized := by
  obtain ⟨fd, D⟩ := F.d_is_sized
  refine Fn.of (k := 0) D F.g_is_sized sc_is_sized rfl (fun _ _ _ _ _ _ us hl => match us, hl with | [_, _, _], _ => rfl) fun G hG cdv A outer s H E hr => ?_
  subst hG
  have hu := hr.units
  have nd := (sc_is_sized).nd
  have tk := takes_of (X := cxOf (L2.CX P w) P w K mg base ["thing", "low", "high"] "is_sized" (defScope s_is_sized) (He.ga K "is_sized") cdv A outer s H E) rfl rfl rfl rfl
  exact ss_one (s_ret (e_and (e_isi cls_tuple (e_var (i := 0) rfl (vis_by rfl)) rfl F.b_isinstance (pe_bltTy rfl F.b_tuple boot_tuple)) (e_one (e_chain (o_le hu) q_dOrd (o_le hu) q_dOrd (e_var (i := 1) rfl (vis_by rfl)) (e_callB c_len q_fLen rfl F.b_len boot_len (a_cons (e_var (i := 0) rfl (vis_by rfl)) (a_nil))) (e_var (i := 2) rfl (vis_by rfl))))))
theorem sc_all_orders : FnScope ["many", "found", "turn", "longer", "row", "one"] ["many"] (defScope s_all_orders) := C8.fnScope_by (by kernel_rfl)
theorem fn_all_orders (F : Fx K mg) : Fn P w K mg base T 1 "all_orders" 1 m_all_orders := by
  obtain ⟨fd, D⟩ := F.d_all_orders
  refine Fn.of (k := 0) D F.g_all_orders sc_all_orders rfl (fun _ _ _ _ _ _ us hl => match us, hl with | [_], _ => rfl) fun G hG cdv A outer s H E hr => ?_
  subst hG
  have hu := hr.units
  have nd := (sc_all_orders).nd
  have tk := takes_of (X := cxOf (L2.CX P w) P w K mg base ["many", "found", "turn", "longer", "row", "one"] "all_orders" (defScope s_all_orders) (He.ga K "all_orders") cdv A outer s H E) rfl rfl rfl rfl
  have po : PassesOwn (model P w) _ _ _ := passes_of (X := cxOf (L2.CX P w) P w K mg base ["many", "found", "turn", "longer", "row", "one"] "all_orders" (defScope s_all_orders) (He.ga K "all_orders") cdv A outer s H E) rfl
  exact ss_cons (s_set (i := 1) nd rfl (loc_by rfl) (e_lst (a_cons (e_tup (a_nil)) (a_nil)))) (ss_cons (s_dead [2, 3, 4] (s_for po rfl (i_rng1 rfl F.b_range (a_cons (e_var (i := 0) rfl (vis_by rfl)) (a_nil))) (g_name (i := 2) nd rfl (loc_by rfl)) (ss_dead [2, 3, 4] (ss_cons (s_set (i := 3) nd rfl (loc_by rfl) (e_cel (a_nil))) (ss_cons (s_dead [4] (s_for po rfl (i_of (e_var (i := 1) rfl (vis_by rfl))) (g_name (i := 4) nd rfl (loc_by rfl)) (ss_dead [4] (ss_one (s_drop (e_mth ms_extend q_fExtend ts3 (e_var (i := 3) rfl (vis_by rfl)) (a_cons (e_lc .data rfl nd (i_rng1 rfl F.b_range (a_cons (e_var (i := 0) rfl (vis_by rfl)) (a_nil))) (blkOk_by (own := [("one", 5)]) (by kernel_rfl)) (by decide) (fun _ _ _ _ _ => g_name (i := 5) nd rfl (loc_by rfl)) (fun _ _ _ _ _ => ts_one (t_cmp (o_notIn hu) q_dIn (e_var (i := 5) rfl (vis_by rfl)) (e_var (i := 4) rfl (vis_by rfl)) rfl)) (fun _ _ _ _ _ => e_op o_add q_dAdd (e_var (i := 4) rfl (vis_by rfl)) (e_tup (a_cons (e_var (i := 5) rfl (vis_by rfl)) (a_nil))))) (a_nil)))))))) (ss_one (s_set (i := 1) nd rfl (loc_by rfl) (e_frz (e_var (i := 3) rfl (vis_by rfl)))))))))) (ss_one (s_ret (e_var (i := 1) rfl (vis_by rfl)))))
theorem sc_relay_sum : FnScope ["times", "relay", "row", "leg"] ["times", "relay"] (defScope s_relay_sum) := C8.fnScope_by (by kernel_rfl)
theorem fn_relay_sum (F : Fx K mg) : Fn P w K mg base T 1 "relay_sum" 2 m_relay_sum := by
  obtain ⟨fd, D⟩ := F.d_relay_sum
  refine Fn.of (k := 0) D F.g_relay_sum sc_relay_sum rfl (fun _ _ _ _ _ _ us hl => match us, hl with | [_, _], _ => rfl) fun G hG cdv A outer s H E hr => ?_
  subst hG
  have hu := hr.units
  have nd := (sc_relay_sum).nd
  have tk := takes_of (X := cxOf (L2.CX P w) P w K mg base ["times", "relay", "row", "leg"] "relay_sum" (defScope s_relay_sum) (He.ga K "relay_sum") cdv A outer s H E) rfl rfl rfl rfl
  exact ss_one (s_ret (e_callB (c_sum rfl) q_fSum rfl F.b_sum boot_sum (a_cons (e_lc .data rfl nd (i_zip rfl F.b_zip (a_cons (e_var (i := 0) rfl (vis_by rfl)) (a_cons (e_var (i := 1) rfl (vis_by rfl)) (a_nil)))) (blkOk_by (own := [("row", 2), ("leg", 3)]) (by kernel_rfl)) (by decide) (fun _ _ _ _ _ => g_tup rfl (gs_cons (g_name (i := 2) nd rfl (loc_by rfl)) (gs_cons (g_name (i := 3) nd rfl (loc_by rfl)) (gs_nil)))) (fun _ _ _ _ _ => ts_nil) (fun _ _ _ _ _ => e_ix (e_var (i := 2) rfl (vis_by rfl)) (e_var (i := 3) rfl (vis_by rfl)) (fun _ _ => rfl))) (a_nil))))
theorem sc_prices_by : FnScope ["times", "relay", "turn", "rows", "many", "legs", "runner", "leg", "other"] ["times", "relay"] (defScope s_prices_by) := C8.fnScope_by (by kernel_rfl)
theorem fn_prices_by (F : Fx K mg) : Fn P w K mg base T 1 "prices_by" 2 m_prices_by := by
  obtain ⟨fd, D⟩ := F.d_prices_by
  refine Fn.of (k := 0) D F.g_prices_by sc_prices_by rfl (fun _ _ _ _ _ _ us hl => match us, hl with | [_, _], _ => rfl) fun G hG cdv A outer s H E hr => ?_
  subst hG
  have hu := hr.units
  have nd := (sc_prices_by).nd
  have tk := takes_of (X := cxOf (L2.CX P w) P w K mg base ["times", "relay", "turn", "rows", "many", "legs", "runner", "leg", "other"] "prices_by" (defScope s_prices_by) (He.ga K "prices_by") cdv A outer s H E) rfl rfl rfl rfl
  have po : PassesOwn (model P w) _ _ _ := passes_of (X := cxOf (L2.CX P w) P w K mg base ["times", "relay", "turn", "rows", "many", "legs", "runner", "leg", "other"] "prices_by" (defScope s_prices_by) (He.ga K "prices_by") cdv A outer s H E) rfl
  exact ss_cons (s_parT rfl (gv_cons (i := 4) nd rfl (loc_by rfl) (gv_cons (i := 5) nd rfl (loc_by rfl) (gv_nil))) (a_cons (e_callB c_len q_fLen rfl F.b_len boot_len (a_cons (e_var (i := 0) rfl (vis_by rfl)) (a_nil))) (a_cons (e_op o_mulC q_dMulC (e_lst (a_cons (e_int) (a_nil))) (e_callB c_len q_fLen rfl F.b_len boot_len (a_cons (e_var (i := 0) rfl (vis_by rfl)) (a_nil)))) (a_nil)))) (ss_cons (s_dead [2, 6, 7, 8] (s_for po rfl (i_rng1 rfl F.b_range (a_cons (e_var (i := 4) rfl (vis_by rfl)) (a_nil))) (g_name (i := 2) nd rfl (loc_by rfl)) (ss_dead [2, 6, 7, 8] (ss_one (s_for po rfl (i_enum rfl F.b_enumerate (a_cons (e_var (i := 1) rfl (vis_by rfl)) (a_nil))) (g_tup rfl (gs_cons (g_name (i := 6) nd rfl (loc_by rfl)) (gs_cons (g_name (i := 7) nd rfl (loc_by rfl)) (gs_nil)))) (ss_dead [6, 7, 8] (ss_one (s_for po rfl (i_rng1 rfl F.b_range (a_cons (e_var (i := 4) rfl (vis_by rfl)) (a_nil))) (g_name (i := 8) nd rfl (loc_by rfl)) (ss_dead [8] (ss_one (s_store (e_callB (c_min rfl hu) q_fMin rfl F.b_min boot_min (a_cons (e_ix (e_var (i := 5) rfl (vis_by rfl)) (e_var (i := 8) rfl (vis_by rfl)) (fun _ _ => rfl)) (a_cons (e_op o_sub q_dSub (e_op o_add q_dAdd (e_ix (e_var (i := 5) rfl (vis_by rfl)) (e_var (i := 7) rfl (vis_by rfl)) (fun _ _ => rfl)) (e_ix (e_ix (e_var (i := 0) rfl (vis_by rfl)) (e_var (i := 6) rfl (vis_by rfl)) (fun _ _ => rfl)) (e_var (i := 8) rfl (vis_by rfl)) (fun _ _ => rfl))) (e_ix (e_ix (e_var (i := 0) rfl (vis_by rfl)) (e_var (i := 6) rfl (vis_by rfl)) (fun _ _ => rfl)) (e_var (i := 7) rfl (vis_by rfl)) (fun _ _ => rfl))) (a_nil)))) (e_var (i := 5) rfl (vis_by rfl)) (e_var (i := 8) rfl (vis_by rfl))))))))))))) (ss_cons (s_setLc (i := 3) .data rfl nd rfl rfl (i_enum rfl F.b_enumerate (a_cons (e_var (i := 1) rfl (vis_by rfl)) (a_nil))) (blkOk_by (own := [("runner", 6), ("leg", 7)]) (by kernel_rfl)) (by decide) (fun _ _ _ _ _ => g_tup rfl (gs_cons (g_name (i := 6) nd rfl (loc_by rfl)) (gs_cons (g_name (i := 7) nd rfl (loc_by rfl)) (gs_nil)))) (fun _ _ _ _ _ => ts_nil) (fun _ _ _ _ _ => e_op o_sub q_dSub (e_ix (e_ix (e_var (i := 0) rfl (vis_by rfl)) (e_var (i := 6) rfl (vis_by rfl)) (fun _ _ => rfl)) (e_var (i := 7) rfl (vis_by rfl)) (fun _ _ => rfl)) (e_ix (e_var (i := 5) rfl (vis_by rfl)) (e_var (i := 7) rfl (vis_by rfl)) (fun _ _ => rfl)))) (ss_one (s_ret (e_tup (a_cons (e_callTy c_tuple q_fTuple rfl F.b_tuple boot_tuple (a_cons (e_var (i := 3) rfl (vis_by rfl)) (a_nil))) (a_cons (e_callTy c_tuple q_fTuple rfl F.b_tuple boot_tuple (a_cons (e_var (i := 5) rfl (vis_by rfl)) (a_nil))) (a_nil))))))))
theorem sc__law_hand : FnScope ["script", "cells", "cell"] ["script"] (defScope s__law_hand) := C8.fnScope_by (by kernel_rfl)
theorem fn__law_hand (F : Fx K mg) : Fn P w K mg base T 1 "_law_hand" 1 m__law_hand := by
  obtain ⟨fd, D⟩ := F.d__law_hand
  refine Fn.of (k := 0) D F.g__law_hand sc__law_hand rfl (fun _ _ _ _ _ _ us hl => match us, hl with | [_], _ => rfl) fun G hG cdv A outer s H E hr => ?_
  subst hG
  have hu := hr.units
  have nd := (sc__law_hand).nd
  have tk := takes_of (X := cxOf (L2.CX P w) P w K mg base ["script", "cells", "cell"] "_law_hand" (defScope s__law_hand) (He.ga K "_law_hand") cdv A outer s H E) rfl rfl rfl rfl
  exact ss_cons (s_setLc (i := 1) .data rfl nd rfl rfl (i_of (e_sl (e_var (i := 0) rfl (vis_by rfl)) o_none (o_some (e_int)))) (blkOk_by (own := [("cell", 2)]) (by kernel_rfl)) (by decide) (fun _ _ _ _ _ => g_name (i := 2) nd rfl (loc_by rfl)) (fun _ _ _ _ _ => ts_nil) (fun _ _ _ _ _ => e_callB c_abs q_fAbs rfl F.b_abs boot_abs (a_cons (e_callTy c_int q_fInt rfl F.b_int boot_int (a_cons (e_var (i := 2) rfl (vis_by rfl)) (a_nil))) (a_nil)))) (ss_one (s_ret (e_cel (a_cons (e_var (i := 1) rfl (vis_by rfl)) (a_cons (e_int) (a_cons (e_int) (a_cons (e_op o_add q_dAdd (e_int) (e_op o_mul q_dMul (e_int) (e_callB c_len q_fLen rfl F.b_len boot_len (a_cons (e_var (i := 1) rfl (vis_by rfl)) (a_nil))))) (a_cons (e_int) (a_nil)))))))))
theorem sc__law_draw : FnScope ["hand", "many", "number", "cell", "digit"] ["hand", "many"] (defScope s__law_draw) := C8.fnScope_by (by kernel_rfl)
theorem fn__law_draw (F : Fx K mg) : Fn P w K mg base T 1 "_law_draw" 2 m__law_draw := by
  obtain ⟨fd, D⟩ := F.d__law_draw
  refine Fn.of (k := 0) D F.g__law_draw sc__law_draw rfl (fun _ _ _ _ _ _ us hl => match us, hl with | [_, _], _ => rfl) fun G hG cdv A outer s H E hr => ?_
  subst hG
  have hu := hr.units
  have nd := (sc__law_draw).nd
  have tk := takes_of (X := cxOf (L2.CX P w) P w K mg base ["hand", "many", "number", "cell", "digit"] "_law_draw" (defScope s__law_draw) (He.ga K "_law_draw") cdv A outer s H E) rfl rfl rfl rfl
  exact ss_cons (s_dead [3] (s_if (t_w (w_and (t_cmp (o_eq hu) q_dEq (e_ix (e_var (i := 0) rfl (vis_by rfl)) (e_int) (fun _ _ => rfl)) (e_int) (nomark _)) (w_and1 (t_cmp (o_lt hu) q_dOrd (e_ix (e_var (i := 0) rfl (vis_by rfl)) (e_int) (fun _ _ => rfl)) (e_callB c_len q_fLen rfl F.b_len boot_len (a_cons (e_ix (e_var (i := 0) rfl (vis_by rfl)) (e_int) (fun _ _ => rfl)) (a_nil))) (nomark _))))) (ss_cons (s_set (i := 3) nd rfl (loc_by rfl) (e_ix (e_ix (e_var (i := 0) rfl (vis_by rfl)) (e_int) (fun _ _ => rfl)) (e_ix (e_var (i := 0) rfl (vis_by rfl)) (e_int) (fun _ _ => rfl)) (fun _ _ => rfl))) (ss_cons (s_store (e_op o_add q_dAdd (e_ix (e_var (i := 0) rfl (vis_by rfl)) (e_int) (fun _ _ => rfl)) (e_int)) (e_var (i := 0) rfl (vis_by rfl)) (e_int)) (ss_cons (s_store (e_op o_mod q_dMod (e_callTy c_int q_fInt rfl F.b_int boot_int (a_cons (e_op o_add q_dAdd (e_op o_add q_dAdd (e_op o_mul q_dMul (e_ix (e_var (i := 0) rfl (vis_by rfl)) (e_int) (fun _ _ => rfl)) (e_int)) (e_var (i := 3) rfl (vis_by rfl))) (e_int)) (a_nil))) (e_int)) (e_var (i := 0) rfl (vis_by rfl)) (e_int)) (ss_one (s_if (t_cmp (o_ge hu) q_dOrd (e_var (i := 3) rfl (vis_by rfl)) (e_op o_pow q_dPow (e_int) (e_int)) (nomark _)) (ss_one (s_store (e_var (i := 3) rfl (vis_by rfl)) (e_var (i := 0) rfl (vis_by rfl)) (e_int))) (ss_nil)))))) (ss_nil))) (ss_cons (s_dead [4] (s_if (t_cmp (o_gt hu) q_dOrd (e_ix (e_var (i := 0) rfl (vis_by rfl)) (e_int) (fun _ _ => rfl)) (e_int) (nomark _)) (ss_cons (s_set (i := 4) nd rfl (loc_by rfl) (e_op o_mod q_dMod (e_callTy c_int q_fInt rfl F.b_int boot_int (a_cons (e_ix (e_var (i := 0) rfl (vis_by rfl)) (e_int) (fun _ _ => rfl)) (a_nil))) (e_var (i := 1) rfl (vis_by rfl)))) (ss_cons (s_store (e_op o_div q_dDiv (e_ix (e_var (i := 0) rfl (vis_by rfl)) (e_int) (fun _ _ => rfl)) (e_var (i := 1) rfl (vis_by rfl))) (e_var (i := 0) rfl (vis_by rfl)) (e_int)) (ss_one (s_ret (e_var (i := 4) rfl (vis_by rfl)))))) (ss_nil))) (ss_cons (s_store (e_op o_add q_dAdd (e_ix (e_var (i := 0) rfl (vis_by rfl)) (e_int) (fun _ _ => rfl)) (e_int)) (e_var (i := 0) rfl (vis_by rfl)) (e_int)) (ss_cons (s_set (i := 2) nd rfl (loc_by rfl) (e_op o_mod q_dMod (e_callTy c_int q_fInt rfl F.b_int boot_int (a_cons (e_op o_mul q_dMul (e_callTy c_int q_fInt rfl F.b_int boot_int (a_cons (e_op o_add q_dAdd (e_ix (e_var (i := 0) rfl (vis_by rfl)) (e_int) (fun _ _ => rfl)) (e_op o_mul q_dMul (e_int) (e_ix (e_var (i := 0) rfl (vis_by rfl)) (e_int) (fun _ _ => rfl)))) (a_nil))) (e_int)) (a_nil))) (e_int))) (ss_cons (s_set (i := 2) nd rfl (loc_by rfl) (e_op o_mod q_dMod (e_callTy c_int q_fInt rfl F.b_int boot_int (a_cons (e_op o_mul q_dMul (e_var (i := 2) rfl (vis_by rfl)) (e_op o_add q_dAdd (e_op o_div q_dDiv (e_var (i := 2) rfl (vis_by rfl)) (e_int)) (e_int))) (a_nil))) (e_int))) (ss_cons (s_set (i := 2) nd rfl (loc_by rfl) (e_op o_mod q_dMod (e_callTy c_int q_fInt rfl F.b_int boot_int (a_cons (e_op o_mul q_dMul (e_var (i := 2) rfl (vis_by rfl)) (e_op o_add q_dAdd (e_op o_div q_dDiv (e_var (i := 2) rfl (vis_by rfl)) (e_int)) (e_int))) (a_nil))) (e_int))) (ss_one (s_ret (e_op o_mod q_dMod (e_callTy c_int q_fInt rfl F.b_int boot_int (a_cons (e_op o_div q_dDiv (e_var (i := 2) rfl (vis_by rfl)) (e_int)) (a_nil))) (e_var (i := 1) rfl (vis_by rfl))))))))))
theorem sc__law_is : FnScope ["told", "due", "k"] ["told", "due"] (defScope s__law_is) := C8.fnScope_by (by kernel_rfl)
theorem fn__law_is (F : Fx K mg) : ∀ n, Fn P w K mg base T (1 + n) "_law_is" 2 (m__law_is n)
  | 0 => by
    obtain ⟨fd, D⟩ := F.d__law_is
    exact Fn.of (k := 0) D F.g__law_is sc__law_is rfl (fun _ _ _ _ _ _ us hl => match us, hl with | [_, _], _ => rfl) fun G hG cdv A outer s H E hr => ss_never
  | k + 1 => by
    obtain ⟨fd, D⟩ := F.d__law_is
    have hrec := fn__law_is F k
    refine Fn.of (k := 1 + k) D F.g__law_is sc__law_is rfl (fun _ _ _ _ _ _ us hl => match us, hl with | [_, _], _ => rfl) fun G hG cdv A outer s H E hr => ?_
    subst hG
    have hu := hr.units
    have nd := (sc__law_is).nd
    have tk := takes_of (X := cxOf (L2.CX P w) P w K mg base ["told", "due", "k"] "_law_is" (defScope s__law_is) (He.ga K "_law_is") cdv A outer s H E) rfl rfl rfl rfl
    exact ss_cons (s_if (t_val (e_isiT (by decide +kernel) (by decide) (e_var (i := 1) rfl (vis_by rfl)) rfl F.b_isinstance (pa_ty (pe_bltTy rfl F.b_tuple boot_tuple) (pa_ty (pe_bltTy rfl F.b_list boot_list) (pa_ty0))))) (ss_cons (s_if (t_cmp (o_ne hu) q_dNe (e_isi cls_tuple (e_var (i := 0) rfl (vis_by rfl)) rfl F.b_isinstance (pe_bltTy rfl F.b_tuple boot_tuple)) (e_isi cls_tuple (e_var (i := 1) rfl (vis_by rfl)) rfl F.b_isinstance (pe_bltTy rfl F.b_tuple boot_tuple)) (nomark _)) (ss_one (s_ret (e_bool))) (ss_nil)) (ss_cons (s_if (t_cmp (o_ne hu) q_dNe (e_isi cls_list (e_var (i := 0) rfl (vis_by rfl)) rfl F.b_isinstance (pe_bltTy rfl F.b_list boot_list)) (e_isi cls_list (e_var (i := 1) rfl (vis_by rfl)) rfl F.b_isinstance (pe_bltTy rfl F.b_list boot_list)) (nomark _)) (ss_one (s_ret (e_bool))) (ss_nil)) (ss_cons (s_if (t_cmp (o_ne hu) q_dNe (e_callB c_len q_fLen rfl F.b_len boot_len (a_cons (e_var (i := 0) rfl (vis_by rfl)) (a_nil))) (e_callB c_len q_fLen rfl F.b_len boot_len (a_cons (e_var (i := 1) rfl (vis_by rfl)) (a_nil))) (nomark _)) (ss_one (s_ret (e_bool))) (ss_nil)) (ss_one (s_ret (e_callB (c_all rfl) q_fAll rfl F.b_all boot_all (a_cons (e_lc .data rfl nd (i_rng1 rfl F.b_range (a_cons (e_callB c_len q_fLen rfl F.b_len boot_len (a_cons (e_var (i := 1) rfl (vis_by rfl)) (a_nil))) (a_nil))) (blkOk_by (own := [("k", 2)]) (by kernel_rfl)) (by decide) (fun _ _ _ _ _ => g_name (i := 2) nd rfl (loc_by rfl)) (fun _ _ _ _ _ => ts_nil) (fun _ _ _ _ _ => e_call hrec (hr.mono (by omega)) takes0 rfl (a_cons (e_ix (e_var (i := 0) rfl (vis_by rfl)) (e_var (i := 2) rfl (vis_by rfl)) (fun _ _ => rfl)) (a_cons (e_ix (e_var (i := 1) rfl (vis_by rfl)) (e_var (i := 2) rfl (vis_by rfl)) (fun _ _ => rfl)) (a_nil))))) (a_nil)))))))) (ss_nil)) (ss_cons (s_if (t_cmp o_is q_dIs (e_var (i := 1) rfl (vis_by rfl)) (e_none) (nomark _)) (ss_one (s_ret (e_cmp o_is q_dIs (e_var (i := 0) rfl (vis_by rfl)) (e_none) (nomark _)))) (ss_nil)) (ss_cons (s_if (t_w (w_or (t_cmp (o_ne hu) q_dNe (e_isi cls_bool (e_var (i := 0) rfl (vis_by rfl)) rfl F.b_isinstance (pe_bltTy rfl F.b_bool boot_bool)) (e_isi cls_bool (e_var (i := 1) rfl (vis_by rfl)) rfl F.b_isinstance (pe_bltTy rfl F.b_bool boot_bool)) (nomark _)) (w_or1 (t_cmp (o_ne hu) q_dNe (e_isi cls_int (e_var (i := 0) rfl (vis_by rfl)) rfl F.b_isinstance (pe_bltTy rfl F.b_int boot_int)) (e_isi cls_int (e_var (i := 1) rfl (vis_by rfl)) rfl F.b_isinstance (pe_bltTy rfl F.b_int boot_int)) (nomark _))))) (ss_one (s_ret (e_bool))) (ss_nil)) (ss_one (s_ret (e_and (e_cmp (o_eq hu) q_dEq (e_isi cls_str (e_var (i := 0) rfl (vis_by rfl)) rfl F.b_isinstance (pe_bltTy rfl F.b_str boot_str)) (e_isi cls_str (e_var (i := 1) rfl (vis_by rfl)) rfl F.b_isinstance (pe_bltTy rfl F.b_str boot_str)) (nomark _)) (e_one (e_cmp (o_eq hu) q_dEq (e_var (i := 0) rfl (vis_by rfl)) (e_var (i := 1) rfl (vis_by rfl)) (nomark _))))))))
theorem sc__law_is_int : FnScope ["thing"] ["thing"] (defScope s__law_is_int) := C8.fnScope_by (by kernel_rfl)
theorem fn__law_is_int (F : Fx K mg) : Fn P w K mg base T 1 "_law_is_int" 1 m__law_is_int := by
  obtain ⟨fd, D⟩ := F.d__law_is_int
  refine Fn.of (k := 0) D F.g__law_is_int sc__law_is_int rfl (fun _ _ _ _ _ _ us hl => match us, hl with | [_], _ => rfl) fun G hG cdv A outer s H E hr => ?_
  subst hG
  have hu := hr.units
  have nd := (sc__law_is_int).nd
  have tk := takes_of (X := cxOf (L2.CX P w) P w K mg base ["thing"] "_law_is_int" (defScope s__law_is_int) (He.ga K "_law_is_int") cdv A outer s H E) rfl rfl rfl rfl
  exact ss_one (s_ret (e_and (e_isi cls_int (e_var (i := 0) rfl (vis_by rfl)) rfl F.b_isinstance (pe_bltTy rfl F.b_int boot_int)) (e_one (e_not (e_isi cls_bool (e_var (i := 0) rfl (vis_by rfl)) rfl F.b_isinstance (pe_bltTy rfl F.b_bool boot_bool))))))
theorem sc__law_word : FnScope ["call", "found", "error", "flags"] ["call"] (defScope s__law_word) := C8.fnScope_by (by kernel_rfl)
theorem gv__law_word {X : Cx} (F : Fx X.K X.mg) (hr0 : Room 1 X.A) (cdg : Value) : GivesM X T ["call", "found", "error", "flags"] "_law_word" (defScope s__law_word) (He.ga X.K "_law_word") cdg (defBody s__law_word) "call" b__law_word := by
  intro G s H th hG act
  have hu := (hr0.deeper (envOfC "_law_word" (defScope s__law_word) s.heap.objs.size (He.ga X.K "_law_word") cdg)).units
  have nd := (sc__law_word).nd
  have tk := LamX.takes0 (X := (cxOf C8.CX0 X.prog X.w X.K X.mg X.base ["call", "found", "error", "flags"] "_law_word" (defScope s__law_word) (He.ga X.K "_law_word") cdg X.A X.stack s H C8.E0).nox)
  exact ss_cons (s_set (i := 1) nd rfl (loc_by rfl) (e_str)) (ss_cons (s_dead [2, 3] (s_tryAs rfl rfl nd rfl rfl F.kn F.x_SchoolError.g rfl tk (fun _ _ _ tk2 _ => ss_one (s_drop (act _ _ _ _ _ tk2))) (fun _ _ _ _ _ h1 hz hf => ss_cons (s_set (i := 3) nd rfl (loc_by rfl) (e_lst (a_cons (e_isE (X := (cxOf C8.CX0 X.prog X.w X.K X.mg X.base ["call", "found", "error", "flags"] "_law_word" (defScope s__law_word) (He.ga X.K "_law_word") cdg X.A X.stack s H C8.E0).nox) F.kn h1 hz hf F.x_NoNumber.g rfl (e_var (i := 2) rfl (vis_by rfl)) rfl F.b_isinstance) (a_cons (e_isE (X := (cxOf C8.CX0 X.prog X.w X.K X.mg X.base ["call", "found", "error", "flags"] "_law_word" (defScope s__law_word) (He.ga X.K "_law_word") cdg X.A X.stack s H C8.E0).nox) F.kn h1 hz hf F.x_NoTimes.g rfl (e_var (i := 2) rfl (vis_by rfl)) rfl F.b_isinstance) (a_nil))))) (ss_cons (s_set (i := 1) nd rfl (loc_by rfl) (e_str)) (ss_one (s_if (t_w (w_and (t_cmp (o_eq hu) q_dEq (e_mth (ms_count hu) q_fCount ts3 (e_var (i := 3) rfl (vis_by rfl)) (a_cons (e_bool) (a_nil))) (e_int) (nomark _)) (w_and1 (t_val (e_isVE (X := (cxOf C8.CX0 X.prog X.w X.K X.mg X.base ["call", "found", "error", "flags"] "_law_word" (defScope s__law_word) (He.ga X.K "_law_word") cdg X.A X.stack s H C8.E0).nox) F.kn h1 hz hf F.b_ValueError rfl (e_var (i := 2) rfl (vis_by rfl)) rfl F.b_isinstance (pe_bltTy rfl F.b_ValueError boot_ValueError)))))) (ss_one (s_set (i := 1) nd rfl (loc_by rfl) (e_ix (e_lst (a_cons (e_str) (a_cons (e_str) (a_nil)))) (e_mth (ms_index hu) q_fIndex ts3 (e_var (i := 3) rfl (vis_by rfl)) (a_cons (e_bool) (a_nil))) (fun _ _ => rfl)))) (ss_nil))))))) (ss_one (s_ret (e_var (i := 1) rfl (vis_by rfl)))))
theorem sc__law_orders : FnScope ["many", "found", "turn", "longer", "row", "one"] ["many"] (defScope s__law_orders) := C8.fnScope_by (by kernel_rfl)
theorem fn__law_orders (F : Fx K mg) : Fn P w K mg base T 1 "_law_orders" 1 m__law_orders := by
  obtain ⟨fd, D⟩ := F.d__law_orders
  refine Fn.of (k := 0) D F.g__law_orders sc__law_orders rfl (fun _ _ _ _ _ _ us hl => match us, hl with | [_], _ => rfl) fun G hG cdv A outer s H E hr => ?_
  subst hG
  have hu := hr.units
  have nd := (sc__law_orders).nd
  have tk := takes_of (X := cxOf (L2.CX P w) P w K mg base ["many", "found", "turn", "longer", "row", "one"] "_law_orders" (defScope s__law_orders) (He.ga K "_law_orders") cdv A outer s H E) rfl rfl rfl rfl
  have po : PassesOwn (model P w) _ _ _ := passes_of (X := cxOf (L2.CX P w) P w K mg base ["many", "found", "turn", "longer", "row", "one"] "_law_orders" (defScope s__law_orders) (He.ga K "_law_orders") cdv A outer s H E) rfl
  exact ss_cons (s_set (i := 1) nd rfl (loc_by rfl) (e_lst (a_cons (e_tup (a_nil)) (a_nil)))) (ss_cons (s_dead [2, 3, 4] (s_for po rfl (i_rng1 rfl F.b_range (a_cons (e_var (i := 0) rfl (vis_by rfl)) (a_nil))) (g_name (i := 2) nd rfl (loc_by rfl)) (ss_dead [2, 3, 4] (ss_cons (s_set (i := 3) nd rfl (loc_by rfl) (e_cel (a_nil))) (ss_cons (s_dead [4] (s_for po rfl (i_of (e_var (i := 1) rfl (vis_by rfl))) (g_name (i := 4) nd rfl (loc_by rfl)) (ss_dead [4] (ss_one (s_drop (e_mth ms_extend q_fExtend ts3 (e_var (i := 3) rfl (vis_by rfl)) (a_cons (e_lc .data rfl nd (i_rng1 rfl F.b_range (a_cons (e_var (i := 0) rfl (vis_by rfl)) (a_nil))) (blkOk_by (own := [("one", 5)]) (by kernel_rfl)) (by decide) (fun _ _ _ _ _ => g_name (i := 5) nd rfl (loc_by rfl)) (fun _ _ _ _ _ => ts_one (t_cmp (o_notIn hu) q_dIn (e_var (i := 5) rfl (vis_by rfl)) (e_var (i := 4) rfl (vis_by rfl)) rfl)) (fun _ _ _ _ _ => e_op o_add q_dAdd (e_var (i := 4) rfl (vis_by rfl)) (e_tup (a_cons (e_var (i := 5) rfl (vis_by rfl)) (a_nil))))) (a_nil)))))))) (ss_one (s_set (i := 1) nd rfl (loc_by rfl) (e_frz (e_var (i := 3) rfl (vis_by rfl)))))))))) (ss_one (s_ret (e_var (i := 1) rfl (vis_by rfl)))))
theorem sc__law_sum : FnScope ["times_told", "relay", "runner", "leg"] ["times_told", "relay"] (defScope s__law_sum) := C8.fnScope_by (by kernel_rfl)
theorem fn__law_sum (F : Fx K mg) : Fn P w K mg base T 1 "_law_sum" 2 m__law_sum := by
  obtain ⟨fd, D⟩ := F.d__law_sum
  refine Fn.of (k := 0) D F.g__law_sum sc__law_sum rfl (fun _ _ _ _ _ _ us hl => match us, hl with | [_, _], _ => rfl) fun G hG cdv A outer s H E hr => ?_
  subst hG
  have hu := hr.units
  have nd := (sc__law_sum).nd
  have tk := takes_of (X := cxOf (L2.CX P w) P w K mg base ["times_told", "relay", "runner", "leg"] "_law_sum" (defScope s__law_sum) (He.ga K "_law_sum") cdv A outer s H E) rfl rfl rfl rfl
  exact ss_one (s_ret (e_callB (c_sum rfl) q_fSum rfl F.b_sum boot_sum (a_cons (e_lc .data rfl nd (i_enum rfl F.b_enumerate (a_cons (e_var (i := 1) rfl (vis_by rfl)) (a_nil))) (blkOk_by (own := [("runner", 2), ("leg", 3)]) (by kernel_rfl)) (by decide) (fun _ _ _ _ _ => g_tup rfl (gs_cons (g_name (i := 2) nd rfl (loc_by rfl)) (gs_cons (g_name (i := 3) nd rfl (loc_by rfl)) (gs_nil)))) (fun _ _ _ _ _ => ts_nil) (fun _ _ _ _ _ => e_ix (e_ix (e_var (i := 0) rfl (vis_by rfl)) (e_var (i := 2) rfl (vis_by rfl)) (fun _ _ => rfl)) (e_var (i := 3) rfl (vis_by rfl)) (fun _ _ => rfl))) (a_nil))))
theorem sc_is_within : FnScope ["thing", "low", "high"] ["thing", "low", "high"] (defScope s_is_within) := C8.fnScope_by (by kernel_rfl)
theorem fn_is_within (F : Fx K mg) : Fn P w K mg base T 2 "is_within" 3 m_is_within := by
  obtain ⟨fd, D⟩ := F.d_is_within
  refine Fn.of (k := 1) D F.g_is_within sc_is_within rfl (fun _ _ _ _ _ _ us hl => match us, hl with | [_, _, _], _ => rfl) fun G hG cdv A outer s H E hr => ?_
  subst hG
  have hu := hr.units
  have nd := (sc_is_within).nd
  have tk := takes_of (X := cxOf (L2.CX P w) P w K mg base ["thing", "low", "high"] "is_within" (defScope s_is_within) (He.ga K "is_within") cdv A outer s H E) rfl rfl rfl rfl
  exact ss_one (s_ret (e_and (e_call (fn_is_integer F) (hr.mono (by decide)) tk rfl (a_cons (e_var (i := 0) rfl (vis_by rfl)) (a_nil))) (e_one (e_chain (o_le hu) q_dOrd (o_le hu) q_dOrd (e_var (i := 1) rfl (vis_by rfl)) (e_var (i := 0) rfl (vis_by rfl)) (e_var (i := 2) rfl (vis_by rfl))))))
theorem sc_is_order : FnScope ["thing", "many", "one"] ["thing", "many"] (defScope s_is_order) := C8.fnScope_by (by kernel_rfl)
theorem fn_is_order (F : Fx K mg) : Fn P w K mg base T 2 "is_order" 2 m_is_order := by
  obtain ⟨fd, D⟩ := F.d_is_order
  refine Fn.of (k := 1) D F.g_is_order sc_is_order rfl (fun _ _ _ _ _ _ us hl => match us, hl with | [_, _], _ => rfl) fun G hG cdv A outer s H E hr => ?_
  subst hG
  have hu := hr.units
  have nd := (sc_is_order).nd
  have tk := takes_of (X := cxOf (L2.CX P w) P w K mg base ["thing", "many", "one"] "is_order" (defScope s_is_order) (He.ga K "is_order") cdv A outer s H E) rfl rfl rfl rfl
  exact ss_cons (s_if (t_w (w_or (t_not (t_val (e_call (fn_is_sized F) (hr.mono (by decide)) tk rfl (a_cons (e_var (i := 0) rfl (vis_by rfl)) (a_cons (e_var (i := 1) rfl (vis_by rfl)) (a_cons (e_var (i := 1) rfl (vis_by rfl)) (a_nil))))))) (w_or1 (t_not (t_val (e_callB (c_all rfl) q_fAll rfl F.b_all boot_all (a_cons (e_lc .data rfl nd (i_of (e_var (i := 0) rfl (vis_by rfl))) (blkOk_by (own := [("one", 2)]) (by kernel_rfl)) (by decide) (fun _ _ _ _ _ => g_name (i := 2) nd rfl (loc_by rfl)) (fun _ _ _ _ _ => ts_nil) (fun _ _ _ _ _ => e_call (fn_is_integer F) (hr.mono (by decide)) takes0 rfl (a_cons (e_var (i := 2) rfl (vis_by rfl)) (a_nil)))) (a_nil)))))))) (ss_one (s_ret (e_bool))) (ss_nil)) (ss_one (s_ret (e_cmp (o_eq hu) q_dEq (e_callB (c_sorted hu) q_fSorted rfl F.b_sorted boot_sorted (a_cons (e_var (i := 0) rfl (vis_by rfl)) (a_nil))) (e_lrg1 rfl rfl F.b_list rfl F.b_range (e_var (i := 1) rfl (vis_by rfl))) (nomark _))))
theorem sc_raw_best_relay : FnScope ["times", "relay"] ["times"] (defScope s_raw_best_relay) := C8.fnScope_by (by kernel_rfl)
theorem fn_raw_best_relay (F : Fx K mg) : Fn P w K mg base T 2 "raw_best_relay" 1 m_raw_best_relay := by
  obtain ⟨fd, D⟩ := F.d_raw_best_relay
  refine Fn.of (k := 1) D F.g_raw_best_relay sc_raw_best_relay rfl (fun _ _ _ _ _ _ us hl => match us, hl with | [_], _ => rfl) fun G hG cdv A outer s H E hr => ?_
  subst hG
  have hu := hr.units
  have nd := (sc_raw_best_relay).nd
  have tk := takes_of (X := cxOf (L2.CX P w) P w K mg base ["times", "relay"] "raw_best_relay" (defScope s_raw_best_relay) (He.ga K "raw_best_relay") cdv A outer s H E) rfl rfl rfl rfl
  exact ss_one (s_ret (e_callB (c_min rfl hu) q_fMin rfl F.b_min boot_min (a_cons (e_lc .data rfl nd (i_of (e_call (fn_all_orders F) (hr.mono (by decide)) tk rfl (a_cons (e_callB c_len q_fLen rfl F.b_len boot_len (a_cons (e_var (i := 0) rfl (vis_by rfl)) (a_nil))) (a_nil)))) (blkOk_by (own := [("relay", 1)]) (by kernel_rfl)) (by decide) (fun _ _ _ _ _ => g_name (i := 1) nd rfl (loc_by rfl)) (fun _ _ _ _ _ => ts_nil) (fun _ _ _ _ _ => e_tup (a_cons (e_call (fn_relay_sum F) (hr.mono (by decide)) takes0 rfl (a_cons (e_var (i := 0) rfl (vis_by rfl)) (a_cons (e_var (i := 1) rfl (vis_by rfl)) (a_nil)))) (a_cons (e_var (i := 1) rfl (vis_by rfl)) (a_nil))))) (a_nil))))
theorem sc_are_integers_of : FnScope ["thing", "many", "one"] ["thing", "many"] (defScope s_are_integers_of) := C8.fnScope_by (by kernel_rfl)
theorem fn_are_integers_of (F : Fx K mg) : Fn P w K mg base T 2 "are_integers_of" 2 m_are_integers_of := by
  obtain ⟨fd, D⟩ := F.d_are_integers_of
  refine Fn.of (k := 1) D F.g_are_integers_of sc_are_integers_of rfl (fun _ _ _ _ _ _ us hl => match us, hl with | [_, _], _ => rfl) fun G hG cdv A outer s H E hr => ?_
  subst hG
  have hu := hr.units
  have nd := (sc_are_integers_of).nd
  have tk := takes_of (X := cxOf (L2.CX P w) P w K mg base ["thing", "many", "one"] "are_integers_of" (defScope s_are_integers_of) (He.ga K "are_integers_of") cdv A outer s H E) rfl rfl rfl rfl
  exact ss_one (s_ret (e_and (e_call (fn_is_sized F) (hr.mono (by decide)) tk rfl (a_cons (e_var (i := 0) rfl (vis_by rfl)) (a_cons (e_var (i := 1) rfl (vis_by rfl)) (a_cons (e_var (i := 1) rfl (vis_by rfl)) (a_nil))))) (e_one (e_callB (c_all rfl) q_fAll rfl F.b_all boot_all (a_cons (e_lc .data rfl nd (i_of (e_var (i := 0) rfl (vis_by rfl))) (blkOk_by (own := [("one", 2)]) (by kernel_rfl)) (by decide) (fun _ _ _ _ _ => g_name (i := 2) nd rfl (loc_by rfl)) (fun _ _ _ _ _ => ts_nil) (fun _ _ _ _ _ => e_call (fn_is_integer F) (hr.mono (by decide)) takes0 rfl (a_cons (e_var (i := 2) rfl (vis_by rfl)) (a_nil)))) (a_nil))))))
theorem sc__law_some : FnScope ["hand", "things"] ["hand", "things"] (defScope s__law_some) := C8.fnScope_by (by kernel_rfl)
theorem fn__law_some (F : Fx K mg) : Fn P w K mg base T 2 "_law_some" 2 m__law_some := by
  obtain ⟨fd, D⟩ := F.d__law_some
  refine Fn.of (k := 1) D F.g__law_some sc__law_some rfl (fun _ _ _ _ _ _ us hl => match us, hl with | [_, _], _ => rfl) fun G hG cdv A outer s H E hr => ?_
  subst hG
  have hu := hr.units
  have nd := (sc__law_some).nd
  have tk := takes_of (X := cxOf (L2.CX P w) P w K mg base ["hand", "things"] "_law_some" (defScope s__law_some) (He.ga K "_law_some") cdv A outer s H E) rfl rfl rfl rfl
  exact ss_one (s_ret (e_ix (e_var (i := 1) rfl (vis_by rfl)) (e_call (fn__law_draw F) (hr.mono (by decide)) tk rfl (a_cons (e_var (i := 0) rfl (vis_by rfl)) (a_cons (e_callB c_len q_fLen rfl F.b_len boot_len (a_cons (e_var (i := 1) rfl (vis_by rfl)) (a_nil))) (a_nil)))) (fun _ _ => rfl)))
theorem sc__law_deep : FnScope ["hand", "found", "turn"] ["hand"] (defScope s__law_deep) := C8.fnScope_by (by kernel_rfl)
theorem fn__law_deep (F : Fx K mg) : Fn P w K mg base T 2 "_law_deep" 1 m__law_deep := by
  obtain ⟨fd, D⟩ := F.d__law_deep
  refine Fn.of (k := 1) D F.g__law_deep sc__law_deep rfl (fun _ _ _ _ _ _ us hl => match us, hl with | [_], _ => rfl) fun G hG cdv A outer s H E hr => ?_
  subst hG
  have hu := hr.units
  have nd := (sc__law_deep).nd
  have tk := takes_of (X := cxOf (L2.CX P w) P w K mg base ["hand", "found", "turn"] "_law_deep" (defScope s__law_deep) (He.ga K "_law_deep") cdv A outer s H E) rfl rfl rfl rfl
  have po : PassesOwn (model P w) _ _ _ := passes_of (X := cxOf (L2.CX P w) P w K mg base ["hand", "found", "turn"] "_law_deep" (defScope s__law_deep) (He.ga K "_law_deep") cdv A outer s H E) rfl
  exact ss_cons (s_set (i := 1) nd rfl (loc_by rfl) (e_str)) (ss_cons (s_dead [2] (s_for po rfl (i_rng1 rfl F.b_range (a_cons (e_call (fn__law_draw F) (hr.mono (by decide)) tk rfl (a_cons (e_var (i := 0) rfl (vis_by rfl)) (a_cons (e_int) (a_nil)))) (a_nil))) (g_name (i := 2) nd rfl (loc_by rfl)) (ss_dead [2] (ss_one (s_set (i := 1) nd rfl (loc_by rfl) (e_if (t_cmp (o_eq hu) q_dEq (e_call (fn__law_draw F) (hr.mono (by decide)) tk rfl (a_cons (e_var (i := 0) rfl (vis_by rfl)) (a_cons (e_int) (a_nil)))) (e_int) (nomark _)) (e_tup (a_cons (e_str) (a_cons (e_var (i := 1) rfl (vis_by rfl)) (a_nil)))) (e_lst (a_cons (e_var (i := 1) rfl (vis_by rfl)) (a_nil))))))))) (ss_one (s_ret (e_var (i := 1) rfl (vis_by rfl)))))
theorem sc__law_is_row : FnScope ["thing", "many", "low", "high", "one"] ["thing", "many", "low", "high"] (defScope s__law_is_row) := C8.fnScope_by (by kernel_rfl)
theorem fn__law_is_row (F : Fx K mg) : Fn P w K mg base T 2 "_law_is_row" 4 m__law_is_row := by
  obtain ⟨fd, D⟩ := F.d__law_is_row
  refine Fn.of (k := 1) D F.g__law_is_row sc__law_is_row rfl (fun _ _ _ _ _ _ us hl => match us, hl with | [_, _, _, _], _ => rfl) fun G hG cdv A outer s H E hr => ?_
  subst hG
  have hu := hr.units
  have nd := (sc__law_is_row).nd
  have tk := takes_of (X := cxOf (L2.CX P w) P w K mg base ["thing", "many", "low", "high", "one"] "_law_is_row" (defScope s__law_is_row) (He.ga K "_law_is_row") cdv A outer s H E) rfl rfl rfl rfl
  exact ss_cons (s_if (t_w (w_or (t_not (t_val (e_isi cls_tuple (e_var (i := 0) rfl (vis_by rfl)) rfl F.b_isinstance (pe_bltTy rfl F.b_tuple boot_tuple)))) (w_or1 (t_cmp (o_ne hu) q_dNe (e_callB c_len q_fLen rfl F.b_len boot_len (a_cons (e_var (i := 0) rfl (vis_by rfl)) (a_nil))) (e_var (i := 1) rfl (vis_by rfl)) (nomark _))))) (ss_one (s_ret (e_bool))) (ss_nil)) (ss_one (s_ret (e_callB (c_all rfl) q_fAll rfl F.b_all boot_all (a_cons (e_lc .data rfl nd (i_of (e_var (i := 0) rfl (vis_by rfl))) (blkOk_by (own := [("one", 4)]) (by kernel_rfl)) (by decide) (fun _ _ _ _ _ => g_name (i := 4) nd rfl (loc_by rfl)) (fun _ _ _ _ _ => ts_nil) (fun _ _ _ _ _ => e_and (e_call (fn__law_is_int F) (hr.mono (by decide)) takes0 rfl (a_cons (e_var (i := 4) rfl (vis_by rfl)) (a_nil))) (e_one (e_chain (o_le hu) q_dOrd (o_le hu) q_dOrd (e_var (i := 2) rfl (vis_by rfl)) (e_var (i := 4) rfl (vis_by rfl)) (e_var (i := 3) rfl (vis_by rfl)))))) (a_nil)))))
theorem sc__law_are_ints : FnScope ["thing", "many", "one"] ["thing", "many"] (defScope s__law_are_ints) := C8.fnScope_by (by kernel_rfl)
theorem fn__law_are_ints (F : Fx K mg) : Fn P w K mg base T 2 "_law_are_ints" 2 m__law_are_ints := by
  obtain ⟨fd, D⟩ := F.d__law_are_ints
  refine Fn.of (k := 1) D F.g__law_are_ints sc__law_are_ints rfl (fun _ _ _ _ _ _ us hl => match us, hl with | [_, _], _ => rfl) fun G hG cdv A outer s H E hr => ?_
  subst hG
  have hu := hr.units
  have nd := (sc__law_are_ints).nd
  have tk := takes_of (X := cxOf (L2.CX P w) P w K mg base ["thing", "many", "one"] "_law_are_ints" (defScope s__law_are_ints) (He.ga K "_law_are_ints") cdv A outer s H E) rfl rfl rfl rfl
  exact ss_one (s_ret (e_and (e_isi cls_tuple (e_var (i := 0) rfl (vis_by rfl)) rfl F.b_isinstance (pe_bltTy rfl F.b_tuple boot_tuple)) (e_and (e_cmp (o_eq hu) q_dEq (e_callB c_len q_fLen rfl F.b_len boot_len (a_cons (e_var (i := 0) rfl (vis_by rfl)) (a_nil))) (e_var (i := 1) rfl (vis_by rfl)) (nomark _)) (e_one (e_callB (c_all rfl) q_fAll rfl F.b_all boot_all (a_cons (e_lc .data rfl nd (i_of (e_var (i := 0) rfl (vis_by rfl))) (blkOk_by (own := [("one", 2)]) (by kernel_rfl)) (by decide) (fun _ _ _ _ _ => g_name (i := 2) nd rfl (loc_by rfl)) (fun _ _ _ _ _ => ts_nil) (fun _ _ _ _ _ => e_call (fn__law_is_int F) (hr.mono (by decide)) takes0 rfl (a_cons (e_var (i := 2) rfl (vis_by rfl)) (a_nil)))) (a_nil)))))))
theorem sc_check_times : FnScope ["times", "row", "one"] ["times"] (defScope s_check_times) := C8.fnScope_by (by kernel_rfl)
theorem fn_check_times (F : Fx K mg) : Fn P w K mg base T 3 "check_times" 1 m_check_times := by
  obtain ⟨fd, D⟩ := F.d_check_times
  refine Fn.of (k := 2) D F.g_check_times sc_check_times rfl (fun _ _ _ _ _ _ us hl => match us, hl with | [_], _ => rfl) fun G hG cdv A outer s H E hr => ?_
  subst hG
  have hu := hr.units
  have nd := (sc_check_times).nd
  have tk := takes_of (X := cxOf (L2.CX P w) P w K mg base ["times", "row", "one"] "check_times" (defScope s_check_times) (He.ga K "check_times") cdv A outer s H E) rfl rfl rfl rfl
  exact ss_cons (s_if (t_w (w_or (t_not (t_val (e_call (fn_is_sized F) (hr.mono (by decide)) tk rfl (a_cons (e_var (i := 0) rfl (vis_by rfl)) (a_cons (e_int) (a_cons (e_glo F.c_MOST_LEGS rfl) (a_nil))))))) (w_or1 (t_not (t_val (e_callB (c_all rfl) q_fAll rfl F.b_all boot_all (a_cons (e_lc .data rfl nd (i_of (e_var (i := 0) rfl (vis_by rfl))) (blkOk_by (own := [("row", 1)]) (by kernel_rfl)) (by decide) (fun _ _ _ _ _ => g_name (i := 1) nd rfl (loc_by rfl)) (fun _ _ _ _ _ => ts_nil) (fun _ _ _ _ _ => e_call (fn_is_sized F) (hr.mono (by decide)) takes0 rfl (a_cons (e_var (i := 1) rfl (vis_by rfl)) (a_cons (e_callB c_len q_fLen rfl F.b_len boot_len (a_cons (e_var (i := 0) rfl (vis_by rfl)) (a_nil))) (a_cons (e_callB c_len q_fLen rfl F.b_len boot_len (a_cons (e_var (i := 0) rfl (vis_by rfl)) (a_nil))) (a_nil)))))) (a_nil)))))))) (ss_one (s_raise rfl tk F.x_NoTimes rfl)) (ss_nil)) (ss_one (s_if (t_not (t_val (e_callB (c_all rfl) q_fAll rfl F.b_all boot_all (a_cons (e_lc .data rfl nd (i_of (e_var (i := 0) rfl (vis_by rfl))) (blkOk_by (own := [("row", 1)]) (by kernel_rfl)) (by decide) (fun _ _ _ _ _ => g_name (i := 1) nd rfl (loc_by rfl)) (fun _ _ _ _ _ => ts_nil) (fun _ _ _ _ _ => e_callB (c_all rfl) q_fAll rfl F.b_all boot_all (a_cons (e_lc .data rfl nd (i_of (e_var (i := 1) rfl (vis_by rfl))) (blkOk_by (own := [("one", 2)]) (by kernel_rfl)) (by decide) (fun _ _ _ _ _ => g_name (i := 2) nd rfl (loc_by rfl)) (fun _ _ _ _ _ => ts_nil) (fun _ _ _ _ _ => e_call (fn_is_within F) (hr.mono (by decide)) takes0 rfl (a_cons (e_var (i := 2) rfl (vis_by rfl)) (a_cons (e_int) (a_cons (e_glo F.c_MOST_LEG_TIME rfl) (a_nil)))))) (a_nil)))) (a_nil))))) (ss_one (s_raise rfl tk F.x_NoTimes rfl)) (ss_nil)))
theorem sc__law_is_told : FnScope ["times_told", "most", "thing", "many", "row", "price", "time", "other"] ["times_told", "most", "thing"] (defScope s__law_is_told) := C8.fnScope_by (by kernel_rfl)
theorem fn__law_is_told (F : Fx K mg) : Fn P w K mg base T 3 "_law_is_told" 3 m__law_is_told := by
  obtain ⟨fd, D⟩ := F.d__law_is_told
  refine Fn.of (k := 2) D F.g__law_is_told sc__law_is_told rfl (fun _ _ _ _ _ _ us hl => match us, hl with | [_, _, _], _ => rfl) fun G hG cdv A outer s H E hr => ?_
  subst hG
  have hu := hr.units
  have nd := (sc__law_is_told).nd
  have tk := takes_of (X := cxOf (L2.CX P w) P w K mg base ["times_told", "most", "thing", "many", "row", "price", "time", "other"] "_law_is_told" (defScope s__law_is_told) (He.ga K "_law_is_told") cdv A outer s H E) rfl rfl rfl rfl
  have po : PassesOwn (model P w) _ _ _ := passes_of (X := cxOf (L2.CX P w) P w K mg base ["times_told", "most", "thing", "many", "row", "price", "time", "other"] "_law_is_told" (defScope s__law_is_told) (He.ga K "_law_is_told") cdv A outer s H E) rfl
  exact ss_cons (s_set (i := 3) nd rfl (loc_by rfl) (e_callB c_len q_fLen rfl F.b_len boot_len (a_cons (e_var (i := 0) rfl (vis_by rfl)) (a_nil)))) (ss_cons (s_if (t_w (w_or (t_not (t_val (e_isi cls_tuple (e_var (i := 2) rfl (vis_by rfl)) rfl F.b_isinstance (pe_bltTy rfl F.b_tuple boot_tuple)))) (w_or (t_cmp (o_notIn hu) q_dIn (e_callB c_len q_fLen rfl F.b_len boot_len (a_cons (e_var (i := 2) rfl (vis_by rfl)) (a_nil))) (e_tup (a_cons (e_int) (a_cons (e_int) (a_nil)))) rfl) (w_or1 (t_not (t_val (e_isi cls_str (e_ix (e_var (i := 2) rfl (vis_by rfl)) (e_int) (fun _ _ => rfl)) rfl F.b_isinstance (pe_bltTy rfl F.b_str boot_str)))))))) (ss_one (s_ret (e_bool))) (ss_nil)) (ss_cons (s_if (t_cmp (o_eq hu) q_dEq (e_ix (e_var (i := 2) rfl (vis_by rfl)) (e_int) (fun _ _ => rfl)) (e_str) (nomark _)) (ss_cons (s_if (t_cmp (o_ne hu) q_dNe (e_callB c_len q_fLen rfl F.b_len boot_len (a_cons (e_var (i := 2) rfl (vis_by rfl)) (a_nil))) (e_int) (nomark _)) (ss_one (s_ret (e_bool))) (ss_nil)) (ss_cons (s_if (t_not (t_val (e_call (fn__law_is_row F) (hr.mono (by decide)) tk rfl (a_cons (e_ix (e_var (i := 2) rfl (vis_by rfl)) (e_int) (fun _ _ => rfl)) (a_cons (e_var (i := 3) rfl (vis_by rfl)) (a_cons (e_int) (a_cons (e_op o_sub q_dSub (e_var (i := 3) rfl (vis_by rfl)) (e_int)) (a_nil)))))))) (ss_one (s_ret (e_bool))) (ss_nil)) (ss_cons (s_if (t_cmp (o_ne hu) q_dNe (e_callB (c_sorted hu) q_fSorted rfl F.b_sorted boot_sorted (a_cons (e_ix (e_var (i := 2) rfl (vis_by rfl)) (e_int) (fun _ _ => rfl)) (a_nil))) (e_lrg1 rfl rfl F.b_list rfl F.b_range (e_var (i := 3) rfl (vis_by rfl))) (nomark _)) (ss_one (s_ret (e_bool))) (ss_nil)) (ss_one (s_ret (e_cmp (o_le hu) q_dOrd (e_call (fn__law_sum F) (hr.mono (by decide)) tk rfl (a_cons (e_var (i := 0) rfl (vis_by rfl)) (a_cons (e_ix (e_var (i := 2) rfl (vis_by rfl)) (e_int) (fun _ _ => rfl)) (a_nil)))) (e_var (i := 1) rfl (vis_by rfl)) (nomark _))))))) (ss_nil)) (ss_cons (s_if (t_cmp (o_ne hu) q_dNe (e_ix (e_var (i := 2) rfl (vis_by rfl)) (e_int) (fun _ _ => rfl)) (e_str) (nomark _)) (ss_one (s_ret (e_bool))) (ss_nil)) (ss_cons (s_if (t_cmp (o_ne hu) q_dNe (e_callB c_len q_fLen rfl F.b_len boot_len (a_cons (e_var (i := 2) rfl (vis_by rfl)) (a_nil))) (e_int) (nomark _)) (ss_one (s_ret (e_bool))) (ss_nil)) (ss_cons (s_if (t_not (t_val (e_call (fn__law_are_ints F) (hr.mono (by decide)) tk rfl (a_cons (e_ix (e_var (i := 2) rfl (vis_by rfl)) (e_int) (fun _ _ => rfl)) (a_cons (e_var (i := 3) rfl (vis_by rfl)) (a_nil)))))) (ss_one (s_ret (e_bool))) (ss_nil)) (ss_cons (s_if (t_not (t_val (e_call (fn__law_are_ints F) (hr.mono (by decide)) tk rfl (a_cons (e_ix (e_var (i := 2) rfl (vis_by rfl)) (e_int) (fun _ _ => rfl)) (a_cons (e_var (i := 3) rfl (vis_by rfl)) (a_nil)))))) (ss_one (s_ret (e_bool))) (ss_nil)) (ss_cons (s_dead [4, 5] (s_for po rfl (i_zip rfl F.b_zip (a_cons (e_var (i := 0) rfl (vis_by rfl)) (a_cons (e_ix (e_var (i := 2) rfl (vis_by rfl)) (e_int) (fun _ _ => rfl)) (a_nil)))) (g_tup rfl (gs_cons (g_name (i := 4) nd rfl (loc_by rfl)) (gs_cons (g_name (i := 5) nd rfl (loc_by rfl)) (gs_nil)))) (ss_dead [4, 5] (ss_one (s_if (t_not (t_val (e_callB (c_all rfl) q_fAll rfl F.b_all boot_all (a_cons (e_lc .data rfl nd (i_zip rfl F.b_zip (a_cons (e_var (i := 4) rfl (vis_by rfl)) (a_cons (e_ix (e_var (i := 2) rfl (vis_by rfl)) (e_int) (fun _ _ => rfl)) (a_nil)))) (blkOk_by (own := [("time", 6), ("other", 7)]) (by kernel_rfl)) (by decide) (fun _ _ _ _ _ => g_tup rfl (gs_cons (g_name (i := 6) nd rfl (loc_by rfl)) (gs_cons (g_name (i := 7) nd rfl (loc_by rfl)) (gs_nil)))) (fun _ _ _ _ _ => ts_nil) (fun _ _ _ _ _ => e_cmp (o_le hu) q_dOrd (e_op o_add q_dAdd (e_var (i := 5) rfl (vis_by rfl)) (e_var (i := 7) rfl (vis_by rfl))) (e_var (i := 6) rfl (vis_by rfl)) (nomark _))) (a_nil))))) (ss_one (s_ret (e_bool))) (ss_nil)))))) (ss_one (s_ret (e_cmp (o_gt hu) q_dOrd (e_op o_add q_dAdd (e_callB (c_sum rfl) q_fSum rfl F.b_sum boot_sum (a_cons (e_ix (e_var (i := 2) rfl (vis_by rfl)) (e_int) (fun _ _ => rfl)) (a_nil))) (e_callB (c_sum rfl) q_fSum rfl F.b_sum boot_sum (a_cons (e_ix (e_var (i := 2) rfl (vis_by rfl)) (e_int) (fun _ _ => rfl)) (a_nil)))) (e_var (i := 1) rfl (vis_by rfl)) (nomark _)))))))))))
theorem sc__law_things : FnScope ["hand", "times_told", "told", "order", "rows", "things", "many", "odd", "at", "one", "other", "row", "price"] ["hand", "times_told", "told"] (defScope s__law_things) := C8.fnScope_by (by kernel_rfl)
theorem fn__law_things (F : Fx K mg) : Fn P w K mg base T 3 "_law_things" 3 m__law_things := by
  obtain ⟨fd, D⟩ := F.d__law_things
  refine Fn.of (k := 2) D F.g__law_things sc__law_things rfl (fun _ _ _ _ _ _ us hl => match us, hl with | [_, _, _], _ => rfl) fun G hG cdv A outer s H E hr => ?_
  subst hG
  have hu := hr.units
  have nd := (sc__law_things).nd
  have tk := takes_of (X := cxOf (L2.CX P w) P w K mg base ["hand", "times_told", "told", "order", "rows", "things", "many", "odd", "at", "one", "other", "row", "price"] "_law_things" (defScope s__law_things) (He.ga K "_law_things") cdv A outer s H E) rfl rfl rfl rfl
  exact ss_cons (s_par rfl nd rfl rfl (by decide) rfl rfl (a_cons (e_callB c_len q_fLen rfl F.b_len boot_len (a_cons (e_var (i := 1) rfl (vis_by rfl)) (a_nil))) (a_cons (e_call (fn__law_some F) (hr.mono (by decide)) tk rfl (a_cons (e_var (i := 0) rfl (vis_by rfl)) (a_cons (e_lst (a_cons (e_none) (a_cons (e_bool) (a_cons (e_str) (a_cons (e_neg (e_int)) (a_cons (e_int) (a_cons (e_tup (a_cons (e_int) (a_nil))) (a_nil)))))))) (a_nil)))) (a_nil)))) (ss_cons (s_set (i := 3) nd rfl (loc_by rfl) (e_call (fn__law_some F) (hr.mono (by decide)) tk rfl (a_cons (e_var (i := 0) rfl (vis_by rfl)) (a_cons (e_call (fn__law_orders F) (hr.mono (by decide)) tk rfl (a_cons (e_var (i := 6) rfl (vis_by rfl)) (a_nil))) (a_nil))))) (ss_cons (s_set (i := 4) nd rfl (loc_by rfl) (e_callTy c_tuple q_fTuple rfl F.b_tuple boot_tuple (a_cons (e_lc .data rfl nd (i_of (e_var (i := 1) rfl (vis_by rfl))) (blkOk_by (own := [("row", 11)]) (by kernel_rfl)) (by decide) (fun _ _ _ _ _ => g_name (i := 11) nd rfl (loc_by rfl)) (fun _ _ _ _ _ => ts_nil) (fun _ _ _ _ _ => e_callB (c_min rfl hu) q_fMin rfl F.b_min boot_min (a_cons (e_var (i := 11) rfl (vis_by rfl)) (a_nil)))) (a_nil)))) (ss_cons (s_set (i := 5) nd rfl (loc_by rfl) (e_cel (a_cons (e_var (i := 2) rfl (vis_by rfl)) (a_cons (e_callTy c_list q_fList rfl F.b_list boot_list (a_cons (e_var (i := 2) rfl (vis_by rfl)) (a_nil))) (a_cons (e_sl (e_var (i := 2) rfl (vis_by rfl)) o_none (o_some (e_int))) (a_cons (e_op o_add q_dAdd (e_var (i := 2) rfl (vis_by rfl)) (e_tup (a_cons (e_int) (a_nil)))) (a_cons (e_tup (a_cons (e_str) (a_cons (e_var (i := 3) rfl (vis_by rfl)) (a_nil)))) (a_cons (e_tup (a_cons (e_str) (a_cons (e_callTy c_list q_fList rfl F.b_list boot_list (a_cons (e_var (i := 3) rfl (vis_by rfl)) (a_nil))) (a_nil)))) (a_cons (e_tup (a_cons (e_str) (a_cons (e_sl (e_var (i := 3) rfl (vis_by rfl)) (o_some (e_int)) o_none) (a_nil)))) (a_cons (e_none) (a_cons (e_int) (a_cons (e_dict0) (a_nil))))))))))))) (ss_cons (s_set (i := 5) nd rfl (loc_by rfl) (e_op o_addC q_dAddC (e_var (i := 5) rfl (vis_by rfl)) (e_lst (a_cons (e_tup (a_cons (e_str) (a_cons (e_op o_add q_dAdd (e_var (i := 3) rfl (vis_by rfl)) (e_tup (a_cons (e_var (i := 7) rfl (vis_by rfl)) (a_nil)))) (a_nil)))) (a_cons (e_tup (a_cons (e_str) (a_cons (e_op o_add q_dAdd (e_tup (a_cons (e_var (i := 7) rfl (vis_by rfl)) (a_nil))) (e_sl (e_var (i := 3) rfl (vis_by rfl)) (o_some (e_int)) o_none)) (a_nil)))) (a_cons (e_tup (a_cons (e_str) (a_cons (e_var (i := 4) rfl (vis_by rfl)) (a_cons (e_op o_mul q_dMul (e_tup (a_cons (e_int) (a_nil))) (e_var (i := 6) rfl (vis_by rfl))) (a_nil))))) (a_cons (e_call (fn__law_deep F) (hr.mono (by decide)) tk rfl (a_cons (e_var (i := 0) rfl (vis_by rfl)) (a_nil))) (a_nil)))))))) (ss_cons (s_set (i := 5) nd rfl (loc_by rfl) (e_op o_addC q_dAddC (e_var (i := 5) rfl (vis_by rfl)) (e_lst (a_cons (e_tup (a_cons (e_str) (a_cons (e_var (i := 4) rfl (vis_by rfl)) (a_cons (e_op o_mul q_dMul (e_tup (a_cons (e_int) (a_nil))) (e_var (i := 6) rfl (vis_by rfl))) (a_nil))))) (a_cons (e_tup (a_cons (e_str) (a_cons (e_var (i := 4) rfl (vis_by rfl)) (a_nil)))) (a_cons (e_tup (a_cons (e_str) (a_cons (e_var (i := 4) rfl (vis_by rfl)) (a_cons (e_op o_mul q_dMul (e_tup (a_cons (e_int) (a_nil))) (e_var (i := 6) rfl (vis_by rfl))) (a_cons (e_int) (a_nil)))))) (a_cons (e_tup (a_cons (e_var (i := 7) rfl (vis_by rfl)) (a_cons (e_var (i := 3) rfl (vis_by rfl)) (a_nil)))) (a_nil)))))))) (ss_cons (s_dead [8, 9, 10] (s_if (t_cmp (o_eq hu) q_dEq (e_ix (e_var (i := 2) rfl (vis_by rfl)) (e_int) (fun _ _ => rfl)) (e_str) (nomark _)) (ss_cons (s_par3 rfl nd rfl rfl rfl (by decide) (by decide) (by decide) rfl rfl rfl (a_cons (e_call (fn__law_draw F) (hr.mono (by decide)) tk rfl (a_cons (e_var (i := 0) rfl (vis_by rfl)) (a_cons (e_var (i := 6) rfl (vis_by rfl)) (a_nil)))) (a_cons (e_ix (e_var (i := 2) rfl (vis_by rfl)) (e_int) (fun _ _ => rfl)) (a_cons (e_ix (e_var (i := 2) rfl (vis_by rfl)) (e_int) (fun _ _ => rfl)) (a_nil))))) (ss_cons (s_set (i := 5) nd rfl (loc_by rfl) (e_op o_addC q_dAddC (e_var (i := 5) rfl (vis_by rfl)) (e_lst (a_cons (e_tup (a_cons (e_str) (a_cons (e_var (i := 10) rfl (vis_by rfl)) (a_cons (e_var (i := 9) rfl (vis_by rfl)) (a_nil))))) (a_cons (e_tup (a_cons (e_str) (a_cons (e_callTy c_list q_fList rfl F.b_list boot_list (a_cons (e_var (i := 9) rfl (vis_by rfl)) (a_nil))) (a_cons (e_var (i := 10) rfl (vis_by rfl)) (a_nil))))) (a_cons (e_tup (a_cons (e_str) (a_cons (e_var (i := 9) rfl (vis_by rfl)) (a_cons (e_sl (e_var (i := 10) rfl (vis_by rfl)) (o_some (e_int)) o_none) (a_nil))))) (a_nil))))))) (ss_cons (s_drop (e_mth ms_append q_fAppend ts3 (e_var (i := 5) rfl (vis_by rfl)) (a_cons (e_tup (a_cons (e_str) (a_cons (e_op o_add q_dAdd (e_op o_add q_dAdd (e_sl (e_var (i := 9) rfl (vis_by rfl)) o_none (o_some (e_var (i := 8) rfl (vis_by rfl)))) (e_tup (a_cons (e_op o_add q_dAdd (e_ix (e_var (i := 9) rfl (vis_by rfl)) (e_var (i := 8) rfl (vis_by rfl)) (fun _ _ => rfl)) (e_int)) (a_nil)))) (e_sl (e_var (i := 9) rfl (vis_by rfl)) (o_some (e_op o_add q_dAdd (e_var (i := 8) rfl (vis_by rfl)) (e_int))) o_none)) (a_cons (e_var (i := 10) rfl (vis_by rfl)) (a_nil))))) (a_nil)))) (ss_cons (s_drop (e_mth ms_append q_fAppend ts3 (e_var (i := 5) rfl (vis_by rfl)) (a_cons (e_tup (a_cons (e_str) (a_cons (e_op o_add q_dAdd (e_op o_add q_dAdd (e_sl (e_var (i := 9) rfl (vis_by rfl)) o_none (o_some (e_var (i := 8) rfl (vis_by rfl)))) (e_tup (a_cons (e_op o_sub q_dSub (e_ix (e_var (i := 9) rfl (vis_by rfl)) (e_var (i := 8) rfl (vis_by rfl)) (fun _ _ => rfl)) (e_int)) (a_nil)))) (e_sl (e_var (i := 9) rfl (vis_by rfl)) (o_some (e_op o_add q_dAdd (e_var (i := 8) rfl (vis_by rfl)) (e_int))) o_none)) (a_cons (e_var (i := 10) rfl (vis_by rfl)) (a_nil))))) (a_nil)))) (ss_cons (s_drop (e_mth ms_append q_fAppend ts3 (e_var (i := 5) rfl (vis_by rfl)) (a_cons (e_tup (a_cons (e_str) (a_cons (e_callTy c_tuple q_fTuple rfl F.b_tuple boot_tuple (a_cons (e_lc .data rfl nd (i_of (e_var (i := 9) rfl (vis_by rfl))) (blkOk_by (own := [("price", 12)]) (by kernel_rfl)) (by decide) (fun _ _ _ _ _ => g_name (i := 12) nd rfl (loc_by rfl)) (fun _ _ _ _ _ => ts_nil) (fun _ _ _ _ _ => e_op o_add q_dAdd (e_var (i := 12) rfl (vis_by rfl)) (e_int))) (a_nil))) (a_cons (e_callTy c_tuple q_fTuple rfl F.b_tuple boot_tuple (a_cons (e_lc .data rfl nd (i_of (e_var (i := 10) rfl (vis_by rfl))) (blkOk_by (own := [("price", 12)]) (by kernel_rfl)) (by decide) (fun _ _ _ _ _ => g_name (i := 12) nd rfl (loc_by rfl)) (fun _ _ _ _ _ => ts_nil) (fun _ _ _ _ _ => e_op o_sub q_dSub (e_var (i := 12) rfl (vis_by rfl)) (e_int))) (a_nil))) (a_nil))))) (a_nil)))) (ss_one (s_drop (e_mth ms_append q_fAppend ts3 (e_var (i := 5) rfl (vis_by rfl)) (a_cons (e_tup (a_cons (e_str) (a_cons (e_op o_add q_dAdd (e_op o_add q_dAdd (e_sl (e_var (i := 9) rfl (vis_by rfl)) o_none (o_some (e_var (i := 8) rfl (vis_by rfl)))) (e_tup (a_cons (e_var (i := 7) rfl (vis_by rfl)) (a_nil)))) (e_sl (e_var (i := 9) rfl (vis_by rfl)) (o_some (e_op o_add q_dAdd (e_var (i := 8) rfl (vis_by rfl)) (e_int))) o_none)) (a_cons (e_var (i := 10) rfl (vis_by rfl)) (a_nil))))) (a_nil)))))))))) (ss_nil))) (ss_one (s_ret (e_frz (e_var (i := 5) rfl (vis_by rfl)))))))))))
theorem sc_best_relay : FnScope ["times"] ["times"] (defScope s_best_relay) := C8.fnScope_by (by kernel_rfl)
theorem fn_best_relay (F : Fx K mg) : Fn P w K mg base T 4 "best_relay" 1 m_best_relay := by
  obtain ⟨fd, D⟩ := F.d_best_relay
  refine Fn.of (k := 3) D F.g_best_relay sc_best_relay rfl (fun _ _ _ _ _ _ us hl => match us, hl with | [_], _ => rfl) fun G hG cdv A outer s H E hr => ?_
  subst hG
  have hu := hr.units
  have nd := (sc_best_relay).nd
  have tk := takes_of (X := cxOf (L2.CX P w) P w K mg base ["times"] "best_relay" (defScope s_best_relay) (He.ga K "best_relay") cdv A outer s H E) rfl rfl rfl rfl
  exact ss_cons (s_drop (e_call (fn_check_times F) (hr.mono (by decide)) tk rfl (a_cons (e_var (i := 0) rfl (vis_by rfl)) (a_nil)))) (ss_one (s_ret (e_call (fn_raw_best_relay F) (hr.mono (by decide)) tk rfl (a_cons (e_var (i := 0) rfl (vis_by rfl)) (a_nil)))))
theorem sc_check_most : FnScope ["times", "most"] ["times", "most"] (defScope s_check_most) := C8.fnScope_by (by kernel_rfl)
theorem fn_check_most (F : Fx K mg) : Fn P w K mg base T 4 "check_most" 2 m_check_most := by
  obtain ⟨fd, D⟩ := F.d_check_most
  refine Fn.of (k := 3) D F.g_check_most sc_check_most rfl (fun _ _ _ _ _ _ us hl => match us, hl with | [_, _], _ => rfl) fun G hG cdv A outer s H E hr => ?_
  subst hG
  have hu := hr.units
  have nd := (sc_check_most).nd
  have tk := takes_of (X := cxOf (L2.CX P w) P w K mg base ["times", "most"] "check_most" (defScope s_check_most) (He.ga K "check_most") cdv A outer s H E) rfl rfl rfl rfl
  exact ss_cons (s_drop (e_call (fn_check_times F) (hr.mono (by decide)) tk rfl (a_cons (e_var (i := 0) rfl (vis_by rfl)) (a_nil)))) (ss_one (s_if (t_w (w_or (t_not (t_val (e_call (fn_is_integer F) (hr.mono (by decide)) tk rfl (a_cons (e_var (i := 1) rfl (vis_by rfl)) (a_nil))))) (w_or1 (t_cmp (o_lt hu) q_dOrd (e_var (i := 1) rfl (vis_by rfl)) (e_int) (nomark _))))) (ss_one (s_raise rfl tk F.x_NoNumber rfl)) (ss_nil)))
theorem sc_relay_told : FnScope ["times", "most", "least", "relay"] ["times", "most"] (defScope s_relay_told) := C8.fnScope_by (by kernel_rfl)
theorem fn_relay_told (F : Fx K mg) : Fn P w K mg base T 5 "relay_told" 2 m_relay_told := by
  obtain ⟨fd, D⟩ := F.d_relay_told
  refine Fn.of (k := 4) D F.g_relay_told sc_relay_told rfl (fun _ _ _ _ _ _ us hl => match us, hl with | [_, _], _ => rfl) fun G hG cdv A outer s H E hr => ?_
  subst hG
  have hu := hr.units
  have nd := (sc_relay_told).nd
  have tk := takes_of (X := cxOf (L2.CX P w) P w K mg base ["times", "most", "least", "relay"] "relay_told" (defScope s_relay_told) (He.ga K "relay_told") cdv A outer s H E) rfl rfl rfl rfl
  exact ss_cons (s_drop (e_call (fn_check_most F) (hr.mono (by decide)) tk rfl (a_cons (e_var (i := 0) rfl (vis_by rfl)) (a_cons (e_var (i := 1) rfl (vis_by rfl)) (a_nil))))) (ss_cons (s_asg (e_call (fn_raw_best_relay F) (hr.mono (by decide)) tk rfl (a_cons (e_var (i := 0) rfl (vis_by rfl)) (a_nil))) (g_tup rfl (gs_cons (g_name (i := 2) nd rfl (loc_by rfl)) (gs_cons (g_name (i := 3) nd rfl (loc_by rfl)) (gs_nil))))) (ss_one (s_ret (e_if (t_cmp (o_le hu) q_dOrd (e_var (i := 2) rfl (vis_by rfl)) (e_var (i := 1) rfl (vis_by rfl)) (nomark _)) (e_tup (a_cons (e_glo F.c_RELAY rfl) (a_cons (e_var (i := 3) rfl (vis_by rfl)) (a_nil)))) (e_op o_add q_dAdd (e_tup (a_cons (e_glo F.c_PRICES rfl) (a_nil))) (e_call (fn_prices_by F) (hr.mono (by decide)) tk rfl (a_cons (e_var (i := 0) rfl (vis_by rfl)) (a_cons (e_var (i := 3) rfl (vis_by rfl)) (a_nil)))))))))
theorem sc_is_relay_told : FnScope ["times", "most", "thing", "many", "row", "price", "time", "other"] ["times", "most", "thing"] (defScope s_is_relay_told) := C8.fnScope_by (by kernel_rfl)
theorem fn_is_relay_told (F : Fx K mg) : Fn P w K mg base T 5 "is_relay_told" 3 m_is_relay_told := by
  obtain ⟨fd, D⟩ := F.d_is_relay_told
  refine Fn.of (k := 4) D F.g_is_relay_told sc_is_relay_told rfl (fun _ _ _ _ _ _ us hl => match us, hl with | [_, _, _], _ => rfl) fun G hG cdv A outer s H E hr => ?_
  subst hG
  have hu := hr.units
  have nd := (sc_is_relay_told).nd
  have tk := takes_of (X := cxOf (L2.CX P w) P w K mg base ["times", "most", "thing", "many", "row", "price", "time", "other"] "is_relay_told" (defScope s_is_relay_told) (He.ga K "is_relay_told") cdv A outer s H E) rfl rfl rfl rfl
  have po : PassesOwn (model P w) _ _ _ := passes_of (X := cxOf (L2.CX P w) P w K mg base ["times", "most", "thing", "many", "row", "price", "time", "other"] "is_relay_told" (defScope s_is_relay_told) (He.ga K "is_relay_told") cdv A outer s H E) rfl
  exact ss_cons (s_drop (e_call (fn_check_most F) (hr.mono (by decide)) tk rfl (a_cons (e_var (i := 0) rfl (vis_by rfl)) (a_cons (e_var (i := 1) rfl (vis_by rfl)) (a_nil))))) (ss_cons (s_set (i := 3) nd rfl (loc_by rfl) (e_callB c_len q_fLen rfl F.b_len boot_len (a_cons (e_var (i := 0) rfl (vis_by rfl)) (a_nil)))) (ss_cons (s_if (t_w (w_or (t_not (t_val (e_call (fn_is_sized F) (hr.mono (by decide)) tk rfl (a_cons (e_var (i := 2) rfl (vis_by rfl)) (a_cons (e_int) (a_cons (e_int) (a_nil))))))) (w_or1 (t_not (t_val (e_isi cls_str (e_ix (e_var (i := 2) rfl (vis_by rfl)) (e_int) (fun _ _ => rfl)) rfl F.b_isinstance (pe_bltTy rfl F.b_str boot_str))))))) (ss_one (s_ret (e_bool))) (ss_nil)) (ss_cons (s_if (t_w (w_and (t_cmp (o_eq hu) q_dEq (e_ix (e_var (i := 2) rfl (vis_by rfl)) (e_int) (fun _ _ => rfl)) (e_glo F.c_RELAY rfl) (nomark _)) (w_and1 (t_cmp (o_eq hu) q_dEq (e_callB c_len q_fLen rfl F.b_len boot_len (a_cons (e_var (i := 2) rfl (vis_by rfl)) (a_nil))) (e_int) (nomark _))))) (ss_one (s_ret (e_and (e_call (fn_is_order F) (hr.mono (by decide)) tk rfl (a_cons (e_ix (e_var (i := 2) rfl (vis_by rfl)) (e_int) (fun _ _ => rfl)) (a_cons (e_var (i := 3) rfl (vis_by rfl)) (a_nil)))) (e_one (e_cmp (o_le hu) q_dOrd (e_call (fn_relay_sum F) (hr.mono (by decide)) tk rfl (a_cons (e_var (i := 0) rfl (vis_by rfl)) (a_cons (e_ix (e_var (i := 2) rfl (vis_by rfl)) (e_int) (fun _ _ => rfl)) (a_nil)))) (e_var (i := 1) rfl (vis_by rfl)) (nomark _)))))) (ss_nil)) (ss_cons (s_if (t_w (w_or (t_cmp (o_ne hu) q_dNe (e_ix (e_var (i := 2) rfl (vis_by rfl)) (e_int) (fun _ _ => rfl)) (e_glo F.c_PRICES rfl) (nomark _)) (w_or (t_cmp (o_ne hu) q_dNe (e_callB c_len q_fLen rfl F.b_len boot_len (a_cons (e_var (i := 2) rfl (vis_by rfl)) (a_nil))) (e_int) (nomark _)) (w_or1 (t_not (t_val (e_callB (c_all rfl) q_fAll rfl F.b_all boot_all (a_cons (e_lc .data rfl nd (i_of (e_sl (e_var (i := 2) rfl (vis_by rfl)) (o_some (e_int)) o_none)) (blkOk_by (own := [("row", 4)]) (by kernel_rfl)) (by decide) (fun _ _ _ _ _ => g_name (i := 4) nd rfl (loc_by rfl)) (fun _ _ _ _ _ => ts_nil) (fun _ _ _ _ _ => e_call (fn_are_integers_of F) (hr.mono (by decide)) takes0 rfl (a_cons (e_var (i := 4) rfl (vis_by rfl)) (a_cons (e_var (i := 3) rfl (vis_by rfl)) (a_nil))))) (a_nil))))))))) (ss_one (s_ret (e_bool))) (ss_nil)) (ss_cons (s_dead [4, 5] (s_for po rfl (i_zip rfl F.b_zip (a_cons (e_var (i := 0) rfl (vis_by rfl)) (a_cons (e_ix (e_var (i := 2) rfl (vis_by rfl)) (e_int) (fun _ _ => rfl)) (a_nil)))) (g_tup rfl (gs_cons (g_name (i := 4) nd rfl (loc_by rfl)) (gs_cons (g_name (i := 5) nd rfl (loc_by rfl)) (gs_nil)))) (ss_dead [4, 5] (ss_one (s_if (t_val (e_callB (c_any rfl) q_fAny rfl F.b_any boot_any (a_cons (e_lc .data rfl nd (i_zip rfl F.b_zip (a_cons (e_var (i := 4) rfl (vis_by rfl)) (a_cons (e_ix (e_var (i := 2) rfl (vis_by rfl)) (e_int) (fun _ _ => rfl)) (a_nil)))) (blkOk_by (own := [("time", 6), ("other", 7)]) (by kernel_rfl)) (by decide) (fun _ _ _ _ _ => g_tup rfl (gs_cons (g_name (i := 6) nd rfl (loc_by rfl)) (gs_cons (g_name (i := 7) nd rfl (loc_by rfl)) (gs_nil)))) (fun _ _ _ _ _ => ts_nil) (fun _ _ _ _ _ => e_cmp (o_gt hu) q_dOrd (e_op o_add q_dAdd (e_var (i := 5) rfl (vis_by rfl)) (e_var (i := 7) rfl (vis_by rfl))) (e_var (i := 6) rfl (vis_by rfl)) (nomark _))) (a_nil)))) (ss_one (s_ret (e_bool))) (ss_nil)))))) (ss_one (s_ret (e_cmp (o_gt hu) q_dOrd (e_op o_add q_dAdd (e_callB (c_sum rfl) q_fSum rfl F.b_sum boot_sum (a_cons (e_ix (e_var (i := 2) rfl (vis_by rfl)) (e_int) (fun _ _ => rfl)) (a_nil))) (e_callB (c_sum rfl) q_fSum rfl F.b_sum boot_sum (a_cons (e_ix (e_var (i := 2) rfl (vis_by rfl)) (e_int) (fun _ _ => rfl)) (a_nil)))) (e_var (i := 1) rfl (vis_by rfl)) (nomark _)))))))))
theorem sc__law_is_right : FnScope ["hand", "times_told", "every", "best", "most", "told", "thing", "flag", "order"] ["hand", "times_told"] (defScope s__law_is_right) := C8.fnScope_by (by kernel_rfl)
theorem fn__law_is_right (F : Fx K mg) : Fn P w K mg base T 42 "_law_is_right" 2 m__law_is_right := by
  obtain ⟨fd, D⟩ := F.d__law_is_right
  refine Fn.of (k := 41) D F.g__law_is_right sc__law_is_right rfl (fun _ _ _ _ _ _ us hl => match us, hl with | [_, _], _ => rfl) fun G hG cdv A outer s H E hr => ?_
  subst hG
  have hu := hr.units
  have nd := (sc__law_is_right).nd
  have tk := takes_of (X := cxOf (L2.CX P w) P w K mg base ["hand", "times_told", "every", "best", "most", "told", "thing", "flag", "order"] "_law_is_right" (defScope s__law_is_right) (He.ga K "_law_is_right") cdv A outer s H E) rfl rfl rfl rfl
  have po : PassesOwn (model P w) _ _ _ := passes_of (X := cxOf (L2.CX P w) P w K mg base ["hand", "times_told", "every", "best", "most", "told", "thing", "flag", "order"] "_law_is_right" (defScope s__law_is_right) (He.ga K "_law_is_right") cdv A outer s H E) rfl
  exact ss_cons (s_set (i := 2) nd rfl (loc_by rfl) (e_call (fn__law_orders F) (hr.mono (by decide)) tk rfl (a_cons (e_callB c_len q_fLen rfl F.b_len boot_len (a_cons (e_var (i := 1) rfl (vis_by rfl)) (a_nil))) (a_nil)))) (ss_cons (s_set (i := 3) nd rfl (loc_by rfl) (e_callB (c_min rfl hu) q_fMin rfl F.b_min boot_min (a_cons (e_lc .data rfl nd (i_of (e_var (i := 2) rfl (vis_by rfl))) (blkOk_by (own := [("order", 8)]) (by kernel_rfl)) (by decide) (fun _ _ _ _ _ => g_name (i := 8) nd rfl (loc_by rfl)) (fun _ _ _ _ _ => ts_nil) (fun _ _ _ _ _ => e_tup (a_cons (e_call (fn__law_sum F) (hr.mono (by decide)) takes0 rfl (a_cons (e_var (i := 1) rfl (vis_by rfl)) (a_cons (e_var (i := 8) rfl (vis_by rfl)) (a_nil)))) (a_cons (e_var (i := 8) rfl (vis_by rfl)) (a_nil))))) (a_nil)))) (ss_cons (s_if (t_not (t_val (e_call (fn__law_is F 40) (hr.mono (by decide)) tk rfl (a_cons (e_call (fn_best_relay F) (hr.mono (by decide)) tk rfl (a_cons (e_var (i := 1) rfl (vis_by rfl)) (a_nil))) (a_cons (e_var (i := 3) rfl (vis_by rfl)) (a_nil)))))) (ss_one (s_ret (e_bool))) (ss_nil)) (ss_cons (s_dead [4, 5, 6, 7] (s_for po rfl (i_of (e_tup (a_cons (e_ix (e_var (i := 3) rfl (vis_by rfl)) (e_int) (fun _ _ => rfl)) (a_cons (e_callB (c_max rfl hu) q_fMax rfl F.b_max boot_max (a_cons (e_int) (a_cons (e_op o_sub q_dSub (e_ix (e_var (i := 3) rfl (vis_by rfl)) (e_int) (fun _ _ => rfl)) (e_int)) (a_nil)))) (a_cons (e_call (fn__law_draw F) (hr.mono (by decide)) tk rfl (a_cons (e_var (i := 0) rfl (vis_by rfl)) (a_cons (e_op o_add q_dAdd (e_ix (e_var (i := 3) rfl (vis_by rfl)) (e_int) (fun _ _ => rfl)) (e_int)) (a_nil)))) (a_nil)))))) (g_name (i := 4) nd rfl (loc_by rfl)) (ss_dead [4, 5, 6, 7] (ss_cons (s_set (i := 5) nd rfl (loc_by rfl) (e_call (fn_relay_told F) (hr.mono (by decide)) tk rfl (a_cons (e_var (i := 1) rfl (vis_by rfl)) (a_cons (e_var (i := 4) rfl (vis_by rfl)) (a_nil))))) (ss_cons (s_if (t_w (w_or (t_not (t_val (e_call (fn__law_is_told F) (hr.mono (by decide)) tk rfl (a_cons (e_var (i := 1) rfl (vis_by rfl)) (a_cons (e_var (i := 4) rfl (vis_by rfl)) (a_cons (e_var (i := 5) rfl (vis_by rfl)) (a_nil))))))) (w_or1 (t_cmp (o_ne hu) q_dNe (e_cmp (o_eq hu) q_dEq (e_ix (e_var (i := 5) rfl (vis_by rfl)) (e_int) (fun _ _ => rfl)) (e_str) (nomark _)) (e_cmp (o_le hu) q_dOrd (e_ix (e_var (i := 3) rfl (vis_by rfl)) (e_int) (fun _ _ => rfl)) (e_var (i := 4) rfl (vis_by rfl)) (nomark _)) (nomark _))))) (ss_one (s_ret (e_bool))) (ss_nil)) (ss_one (s_for po rfl (i_of (e_call (fn__law_things F) (hr.mono (by decide)) tk rfl (a_cons (e_var (i := 0) rfl (vis_by rfl)) (a_cons (e_var (i := 1) rfl (vis_by rfl)) (a_cons (e_var (i := 5) rfl (vis_by rfl)) (a_nil)))))) (g_name (i := 6) nd rfl (loc_by rfl)) (ss_dead [6, 7] (ss_cons (s_set (i := 7) nd rfl (loc_by rfl) (e_call (fn__law_is_told F) (hr.mono (by decide)) tk rfl (a_cons (e_var (i := 1) rfl (vis_by rfl)) (a_cons (e_var (i := 4) rfl (vis_by rfl)) (a_cons (e_var (i := 6) rfl (vis_by rfl)) (a_nil)))))) (ss_cons (s_if (t_not (t_val (e_call (fn__law_is F 40) (hr.mono (by decide)) tk rfl (a_cons (e_call (fn_is_relay_told F) (hr.mono (by decide)) tk rfl (a_cons (e_var (i := 1) rfl (vis_by rfl)) (a_cons (e_var (i := 4) rfl (vis_by rfl)) (a_cons (e_var (i := 6) rfl (vis_by rfl)) (a_nil))))) (a_cons (e_var (i := 7) rfl (vis_by rfl)) (a_nil)))))) (ss_one (s_ret (e_bool))) (ss_nil)) (ss_one (s_if (t_w (w_and (t_val (e_var (i := 7) rfl (vis_by rfl))) (w_and1 (t_cmp (o_ne hu) q_dNe (e_ix (e_var (i := 6) rfl (vis_by rfl)) (e_int) (fun _ _ => rfl)) (e_ix (e_var (i := 5) rfl (vis_by rfl)) (e_int) (fun _ _ => rfl)) (nomark _))))) (ss_one (s_ret (e_bool))) (ss_nil))))))))))))) (ss_one (s_ret (e_bool))))))
theorem sc_law : FnScope ["script", "hand", "times_told", "told", "turn", "bad", "odd", "words", "many", "top", "runner", "leg"] ["script"] (defScope s_law) := C8.fnScope_by (by kernel_rfl)
theorem ok_law (F : Fx K mg) (TB : ∀ p ∈ TC K makers, LamX.TabB base mg p.1 p.2) {fd : FuncData} (D : FunD K "law" "law" (defArgs s_law) (defBody s_law) (defScope s_law) [] [] (He.ga K "law") fd) : FnOk P w K mg base (L2.CX P w) 45 (He.ga K "law") fd ["script"] (spM K mg (TT K makers) 1 m_law) := by
  refine fnok_ofL (T := TT K makers) (k := 44) D sc_law rfl fun G hG A outer s H E hr => ?_
  obtain ⟨fd__law_word, D__law_word⟩ := F.d__law_word
  have hu := hr.units
  have nd := (sc_law).nd
  have tk := takes_of (X := cxOf (L2.CX P w) P w K mg base ["script", "hand", "times_told", "told", "turn", "bad", "odd", "words", "many", "top", "runner", "leg"] "law" (defScope s_law) (He.ga K "law") (.ref (He.cT K ("law", none)).1) A outer s H E) rfl rfl rfl rfl
  have po : PassesOwn (model P w) _ _ _ := passes_of (X := cxOf (L2.CX P w) P w K mg base ["script", "hand", "times_told", "told", "turn", "bad", "odd", "words", "many", "top", "runner", "leg"] "law" (defScope s_law) (He.ga K "law") (.ref (He.cT K ("law", none)).1) A outer s H E) rfl
  exact ss_cons (s_set (i := 1) nd rfl (loc_by rfl) (e_call (fn__law_hand F) (hr.mono (by decide)) tk rfl (a_cons (e_var (i := 0) rfl (vis_by rfl)) (a_nil)))) (ss_cons (s_set (i := 2) nd rfl (loc_by rfl) (e_tup (a_cons (e_tup (a_cons (e_int) (a_cons (e_int) (a_nil)))) (a_cons (e_tup (a_cons (e_int) (a_cons (e_int) (a_nil)))) (a_nil))))) (ss_cons (s_set (i := 3) nd rfl (loc_by rfl) (e_lst (a_cons (e_call (fn_best_relay F) (hr.mono (by decide)) tk rfl (a_cons (e_var (i := 2) rfl (vis_by rfl)) (a_nil))) (a_cons (e_call (fn_relay_told F) (hr.mono (by decide)) tk rfl (a_cons (e_var (i := 2) rfl (vis_by rfl)) (a_cons (e_int) (a_nil)))) (a_cons (e_call (fn_is_relay_told F) (hr.mono (by decide)) tk rfl (a_cons (e_var (i := 2) rfl (vis_by rfl)) (a_cons (e_int) (a_cons (e_tup (a_cons (e_str) (a_cons (e_tup (a_cons (e_int) (a_cons (e_int) (a_nil)))) (a_cons (e_tup (a_cons (e_int) (a_cons (e_int) (a_nil)))) (a_nil))))) (a_nil))))) (a_nil)))))) (ss_cons (s_if (t_not (t_val (e_call (fn__law_is F 40) (hr.mono (by decide)) tk rfl (a_cons (e_var (i := 3) rfl (vis_by rfl)) (a_cons (e_lst (a_cons (e_tup (a_cons (e_int) (a_cons (e_tup (a_cons (e_int) (a_cons (e_int) (a_nil)))) (a_nil)))) (a_cons (e_tup (a_cons (e_str) (a_cons (e_tup (a_cons (e_int) (a_cons (e_int) (a_nil)))) (a_nil)))) (a_cons (e_bool) (a_nil))))) (a_nil)))))) (ss_one (s_ret (e_bool))) (ss_nil)) (ss_cons (s_dead [2, 4, 5, 6, 7, 8, 9] (s_for po rfl (i_rng1 rfl F.b_range (a_cons (e_int) (a_nil))) (g_name (i := 4) nd rfl (loc_by rfl)) (ss_dead [2, 4, 5, 6, 7, 8, 9] (ss_cons (s_parT rfl (gv_cons (i := 8) nd rfl (loc_by rfl) (gv_cons (i := 9) nd rfl (loc_by rfl) (gv_nil))) (a_cons (e_op o_add q_dAdd (e_int) (e_call (fn__law_draw F) (hr.mono (by decide)) tk rfl (a_cons (e_var (i := 1) rfl (vis_by rfl)) (a_cons (e_int) (a_nil))))) (a_cons (e_call (fn__law_some F) (hr.mono (by decide)) tk rfl (a_cons (e_var (i := 1) rfl (vis_by rfl)) (a_cons (e_lst (a_cons (e_int) (a_cons (e_int) (a_cons (e_int) (a_nil))))) (a_nil)))) (a_nil)))) (ss_cons (s_set (i := 2) nd rfl (loc_by rfl) (e_callTy c_tuple q_fTuple rfl F.b_tuple boot_tuple (a_cons (e_lc .data rfl nd (i_rng1 rfl F.b_range (a_cons (e_var (i := 8) rfl (vis_by rfl)) (a_nil))) (blkOk_by (own := [("runner", 10)]) (by kernel_rfl)) (by decide) (fun _ _ _ _ _ => g_name (i := 10) nd rfl (loc_by rfl)) (fun _ _ _ _ _ => ts_nil) (fun _ _ _ _ _ => e_callTy c_tuple q_fTuple rfl F.b_tuple boot_tuple (a_cons (e_lc .data rfl nd (i_rng1 rfl F.b_range (a_cons (e_var (i := 8) rfl (vis_by rfl)) (a_nil))) (blkOk_by (own := [("leg", 11)]) (by kernel_rfl)) (by decide) (fun _ _ _ _ _ => g_name (i := 11) nd rfl (loc_by rfl)) (fun _ _ _ _ _ => ts_nil) (fun _ _ _ _ _ => e_call (fn__law_draw F) (hr.mono (by decide)) takes0 rfl (a_cons (e_var (i := 1) rfl (vis_by rfl)) (a_cons (e_var (i := 9) rfl (vis_by rfl)) (a_nil))))) (a_nil)))) (a_nil)))) (ss_cons (s_if (t_not (t_val (e_call (fn__law_is_right F) (hr.mono (by decide)) tk rfl (a_cons (e_var (i := 1) rfl (vis_by rfl)) (a_cons (e_var (i := 2) rfl (vis_by rfl)) (a_nil)))))) (ss_one (s_ret (e_bool))) (ss_nil)) (ss_cons (s_set (i := 5) nd rfl (loc_by rfl) (e_call (fn__law_some F) (hr.mono (by decide)) tk rfl (a_cons (e_var (i := 1) rfl (vis_by rfl)) (a_cons (e_lst (a_cons (e_none) (a_cons (e_tup (a_nil)) (a_cons (e_lst (a_cons (e_tup (a_cons (e_int) (a_nil))) (a_nil))) (a_cons (e_tup (a_cons (e_tup (a_nil)) (a_nil))) (a_cons (e_tup (a_cons (e_tup (a_cons (e_int) (a_cons (e_int) (a_nil)))) (a_nil))) (a_cons (e_tup (a_cons (e_tup (a_cons (e_int) (a_nil))) (a_cons (e_tup (a_cons (e_int) (a_nil))) (a_nil)))) (a_cons (e_tup (a_cons (e_tup (a_cons (e_int) (a_nil))) (a_nil))) (a_cons (e_tup (a_cons (e_tup (a_cons (e_neg (e_int)) (a_nil))) (a_nil))) (a_cons (e_tup (a_cons (e_tup (a_cons (e_bool) (a_nil))) (a_nil))) (a_cons (e_tup (a_cons (e_tup (a_cons (e_str) (a_nil))) (a_nil))) (a_cons (e_str) (a_nil))))))))))))) (a_nil))))) (ss_cons (s_set (i := 5) nd rfl (loc_by rfl) (e_call (fn__law_some F) (hr.mono (by decide)) tk rfl (a_cons (e_var (i := 1) rfl (vis_by rfl)) (a_cons (e_lst (a_cons (e_var (i := 5) rfl (vis_by rfl)) (a_cons (e_op o_mul q_dMul (e_tup (a_cons (e_op o_mul q_dMul (e_tup (a_cons (e_int) (a_nil))) (e_int)) (a_nil))) (e_int)) (a_cons (e_tup (a_cons (e_lst (a_cons (e_int) (a_nil))) (a_nil))) (a_cons (e_call (fn__law_deep F) (hr.mono (by decide)) tk rfl (a_cons (e_var (i := 1) rfl (vis_by rfl)) (a_nil))) (a_nil)))))) (a_nil))))) (ss_cons (s_set (i := 6) nd rfl (loc_by rfl) (e_call (fn__law_some F) (hr.mono (by decide)) tk rfl (a_cons (e_var (i := 1) rfl (vis_by rfl)) (a_cons (e_lst (a_cons (e_neg (e_int)) (a_cons (e_none) (a_cons (e_bool) (a_cons (e_str) (a_cons (e_call (fn__law_deep F) (hr.mono (by decide)) tk rfl (a_cons (e_var (i := 1) rfl (vis_by rfl)) (a_nil))) (a_nil))))))) (a_nil))))) (ss_cons (s_set (i := 7) nd rfl (loc_by rfl) (e_cel (a_cons (e_lamD (k := 42) rfl F.g__law_word D__law_word (fun _ _ _ _ _ _ us hl => match us, hl with | [_], _ => rfl) sc__law_word rfl (vis_by rfl) (fun cdg hr0 => gv__law_word F (hr0.mono (by decide)) cdg) (TB _ (tc_mem mk_law)) rfl (hG ▸ tt_mem mk_law) (hG ▸ tt_u mk_law F.tb) (hr.mono (by decide)) (LamX.lamS_by (by kernel_rfl)) rfl (fun _ _ _ _ _ => rfl) (fun A2 outer2 s2 H2 E2 f2 c2 hr2 => e_call (fn_relay_told F) (hr2.mono (by decide)) (takes_of rfl rfl rfl rfl) rfl (a_cons (e_var (i := 5) rfl (vis_by rfl)) (a_cons (e_var (i := 6) rfl (vis_by rfl)) (a_nil))))) (a_nil)))) (ss_cons (s_drop (e_mth ms_append q_fAppend ts3 (e_var (i := 7) rfl (vis_by rfl)) (a_cons (e_lamD (k := 42) rfl F.g__law_word D__law_word (fun _ _ _ _ _ _ us hl => match us, hl with | [_], _ => rfl) sc__law_word rfl (vis_by rfl) (fun cdg hr0 => gv__law_word F (hr0.mono (by decide)) cdg) (TB _ (tc_mem mk_law)) rfl (hG ▸ tt_mem mk_law) (hG ▸ tt_u mk_law F.tb) (hr.mono (by decide)) (LamX.lamS_by (by kernel_rfl)) rfl (fun _ _ _ _ _ => rfl) (fun A2 outer2 s2 H2 E2 f2 c2 hr2 => e_call (fn_relay_told F) (hr2.mono (by decide)) (takes_of rfl rfl rfl rfl) rfl (a_cons (e_var (i := 2) rfl (vis_by rfl)) (a_cons (e_var (i := 6) rfl (vis_by rfl)) (a_nil))))) (a_nil)))) (ss_cons (s_drop (e_mth ms_append q_fAppend ts3 (e_var (i := 7) rfl (vis_by rfl)) (a_cons (e_lamD (k := 42) rfl F.g__law_word D__law_word (fun _ _ _ _ _ _ us hl => match us, hl with | [_], _ => rfl) sc__law_word rfl (vis_by rfl) (fun cdg hr0 => gv__law_word F (hr0.mono (by decide)) cdg) (TB _ (tc_mem mk_law)) rfl (hG ▸ tt_mem mk_law) (hG ▸ tt_u mk_law F.tb) (hr.mono (by decide)) (LamX.lamS_by (by kernel_rfl)) rfl (fun _ _ _ _ _ => rfl) (fun A2 outer2 s2 H2 E2 f2 c2 hr2 => e_call (fn_best_relay F) (hr2.mono (by decide)) (takes_of rfl rfl rfl rfl) rfl (a_cons (e_var (i := 5) rfl (vis_by rfl)) (a_nil)))) (a_nil)))) (ss_cons (s_drop (e_mth ms_append q_fAppend ts3 (e_var (i := 7) rfl (vis_by rfl)) (a_cons (e_lamD (k := 42) rfl F.g__law_word D__law_word (fun _ _ _ _ _ _ us hl => match us, hl with | [_], _ => rfl) sc__law_word rfl (vis_by rfl) (fun cdg hr0 => gv__law_word F (hr0.mono (by decide)) cdg) (TB _ (tc_mem mk_law)) rfl (hG ▸ tt_mem mk_law) (hG ▸ tt_u mk_law F.tb) (hr.mono (by decide)) (LamX.lamS_by (by kernel_rfl)) rfl (fun _ _ _ _ _ => rfl) (fun A2 outer2 s2 H2 E2 f2 c2 hr2 => e_call (fn_is_relay_told F) (hr2.mono (by decide)) (takes_of rfl rfl rfl rfl) rfl (a_cons (e_var (i := 5) rfl (vis_by rfl)) (a_cons (e_var (i := 6) rfl (vis_by rfl)) (a_cons (e_none) (a_nil)))))) (a_nil)))) (ss_cons (s_drop (e_mth ms_append q_fAppend ts3 (e_var (i := 7) rfl (vis_by rfl)) (a_cons (e_lamD (k := 42) rfl F.g__law_word D__law_word (fun _ _ _ _ _ _ us hl => match us, hl with | [_], _ => rfl) sc__law_word rfl (vis_by rfl) (fun cdg hr0 => gv__law_word F (hr0.mono (by decide)) cdg) (TB _ (tc_mem mk_law)) rfl (hG ▸ tt_mem mk_law) (hG ▸ tt_u mk_law F.tb) (hr.mono (by decide)) (LamX.lamS_by (by kernel_rfl)) rfl (fun _ _ _ _ _ => rfl) (fun A2 outer2 s2 H2 E2 f2 c2 hr2 => e_call (fn_is_relay_told F) (hr2.mono (by decide)) (takes_of rfl rfl rfl rfl) rfl (a_cons (e_var (i := 2) rfl (vis_by rfl)) (a_cons (e_var (i := 6) rfl (vis_by rfl)) (a_cons (e_none) (a_nil)))))) (a_nil)))) (ss_one (s_if (t_cmp (o_ne hu) q_dNe (e_var (i := 7) rfl (vis_by rfl)) (e_lst (a_cons (e_str) (a_cons (e_str) (a_cons (e_str) (a_cons (e_str) (a_cons (e_str) (a_nil))))))) (nomark _)) (ss_one (s_ret (e_bool))) (ss_nil))))))))))))))))) (ss_one (s_ret (e_bool)))))))
end
end K56
end K56d_

section K56h_
set_option linter.all false
set_option maxRecDepth 100000
set_option Elab.async false
namespace K56
open PySem PySem.Spec PyProof.Rows L2 Vi
def fnL0 : List He.DefD := [⟨("is_integer", none), "is_integer", "is_integer", defArgs s_is_integer, defBody s_is_integer, defScope s_is_integer, [], []⟩,
  ⟨("is_sized", none), "is_sized", "is_sized", defArgs s_is_sized, defBody s_is_sized, defScope s_is_sized, [], []⟩,
  ⟨("all_orders", none), "all_orders", "all_orders", defArgs s_all_orders, defBody s_all_orders, defScope s_all_orders, [], []⟩,
  ⟨("relay_sum", none), "relay_sum", "relay_sum", defArgs s_relay_sum, defBody s_relay_sum, defScope s_relay_sum, [], []⟩,
  ⟨("prices_by", none), "prices_by", "prices_by", defArgs s_prices_by, defBody s_prices_by, defScope s_prices_by, [], []⟩,
  ⟨("_law_hand", none), "_law_hand", "_law_hand", defArgs s__law_hand, defBody s__law_hand, defScope s__law_hand, [], []⟩,
  ⟨("_law_draw", none), "_law_draw", "_law_draw", defArgs s__law_draw, defBody s__law_draw, defScope s__law_draw, [], []⟩,
  ⟨("_law_is", none), "_law_is", "_law_is", defArgs s__law_is, defBody s__law_is, defScope s__law_is, [], []⟩,
  ⟨("_law_is_int", none), "_law_is_int", "_law_is_int", defArgs s__law_is_int, defBody s__law_is_int, defScope s__law_is_int, [], []⟩,
  ⟨("_law_word", none), "_law_word", "_law_word", defArgs s__law_word, defBody s__law_word, defScope s__law_word, [], []⟩,
  ⟨("_law_orders", none), "_law_orders", "_law_orders", defArgs s__law_orders, defBody s__law_orders, defScope s__law_orders, [], []⟩,
  ⟨("_law_sum", none), "_law_sum", "_law_sum", defArgs s__law_sum, defBody s__law_sum, defScope s__law_sum, [], []⟩,
  ⟨("is_within", none), "is_within", "is_within", defArgs s_is_within, defBody s_is_within, defScope s_is_within, [], []⟩,
  ⟨("is_order", none), "is_order", "is_order", defArgs s_is_order, defBody s_is_order, defScope s_is_order, [], []⟩,
  ⟨("raw_best_relay", none), "raw_best_relay", "raw_best_relay", defArgs s_raw_best_relay, defBody s_raw_best_relay, defScope s_raw_best_relay, [], []⟩,
  ⟨("are_integers_of", none), "are_integers_of", "are_integers_of", defArgs s_are_integers_of, defBody s_are_integers_of, defScope s_are_integers_of, [], []⟩,
  ⟨("_law_some", none), "_law_some", "_law_some", defArgs s__law_some, defBody s__law_some, defScope s__law_some, [], []⟩,
  ⟨("_law_deep", none), "_law_deep", "_law_deep", defArgs s__law_deep, defBody s__law_deep, defScope s__law_deep, [], []⟩,
  ⟨("_law_is_row", none), "_law_is_row", "_law_is_row", defArgs s__law_is_row, defBody s__law_is_row, defScope s__law_is_row, [], []⟩,
  ⟨("_law_are_ints", none), "_law_are_ints", "_law_are_ints", defArgs s__law_are_ints, defBody s__law_are_ints, defScope s__law_are_ints, [], []⟩]
def fnL1 : List He.DefD := [⟨("check_times", none), "check_times", "check_times", defArgs s_check_times, defBody s_check_times, defScope s_check_times, [], []⟩,
  ⟨("_law_is_told", none), "_law_is_told", "_law_is_told", defArgs s__law_is_told, defBody s__law_is_told, defScope s__law_is_told, [], []⟩,
  ⟨("_law_things", none), "_law_things", "_law_things", defArgs s__law_things, defBody s__law_things, defScope s__law_things, [], []⟩,
  ⟨("best_relay", none), "best_relay", "best_relay", defArgs s_best_relay, defBody s_best_relay, defScope s_best_relay, [], []⟩,
  ⟨("check_most", none), "check_most", "check_most", defArgs s_check_most, defBody s_check_most, defScope s_check_most, [], []⟩,
  ⟨("relay_told", none), "relay_told", "relay_told", defArgs s_relay_told, defBody s_relay_told, defScope s_relay_told, [], []⟩,
  ⟨("is_relay_told", none), "is_relay_told", "is_relay_told", defArgs s_is_relay_told, defBody s_is_relay_told, defScope s_is_relay_told, [], []⟩,
  ⟨("_law_is_right", none), "_law_is_right", "_law_is_right", defArgs s__law_is_right, defBody s__law_is_right, defScope s__law_is_right, [], []⟩,
  ⟨("law", none), "law", "law", defArgs s_law, defBody s_law, defScope s_law, [], []⟩]
def fnL : List He.DefD := fnL0 ++ fnL1
def faL0 : List He.Fa := [.glo "is_integer", .glo "is_sized", .glo "all_orders", .glo "relay_sum", .glo "prices_by", .glo "_law_hand", .glo "_law_draw", .glo "_law_is", .glo "_law_is_int", .glo "_law_word", .glo "_law_orders", .glo "_law_sum", .glo "is_within", .glo "is_order", .glo "raw_best_relay", .glo "are_integers_of", .glo "_law_some", .glo "_law_deep", .glo "_law_is_row", .glo "_law_are_ints"]
def faL1 : List He.Fa := [.glo "check_times", .glo "_law_is_told", .glo "_law_things", .glo "best_relay", .glo "check_most", .glo "relay_told", .glo "is_relay_told", .glo "_law_is_right", .glo "law", .free "ValueError", .free "abs", .free "all", .free "any", .free "bool", .free "enumerate", .free "int", .free "isinstance", .free "len", .free "list", .free "max"]
def faL2 : List He.Fa := [.free "min", .free "range", .free "sorted", .free "str", .free "sum", .free "tuple", .free "zip"]
def faL : List He.Fa := faL0 ++ faL1 ++ faL2
def exK (K : PySem.W.Frag) : Bool := [gloB K "MOST_LEGS" c_MOST_LEGS, gloB K "MOST_LEG_TIME" c_MOST_LEG_TIME, gloB K "RELAY" c_RELAY, gloB K "PRICES" c_PRICES, exB K "SchoolError", exB K "NoNumber", exB K "NoTimes", knB K knL, decide (makers.map fun r => (He.cT K (r.1, none)).2).Nodup].all id
def tfL : List He.Defn := [("law", none)]
abbrev hk : PySem.W.Hook := He.hookX 4 faL fnL [] tfL exK
def ob (s : PySem.W.SharedT) : He.AlX := He.obsX 4 faL fnL [] tfL exK (HandSHeadRun.getT s)
theorem ob_eq (s : PySem.W.SharedT) : ob s = hk.obs s.abs := He.obsX_eq (HandSHeadRun.getT_eq s)
abbrev R : PySem.W.OpenRow := PySem.W.OpenLaw.row PySem.Challenge.rw_schoolyear_k56_whole_relays_or_prices
def loose0 : List PySem.Str := ["is_integer", "is_within", "is_sized", "is_order", "all_orders", "check_times", "relay_sum", "raw_best_relay", "best_relay", "prices_by", "check_most", "relay_told", "are_integers_of", "is_relay_told", "_law_hand", "_law_draw", "_law_some", "_law_is", "_law_deep", "_law_is_int"]
def loose1 : List PySem.Str := ["_law_is_row", "_law_word", "_law_orders", "_law_sum", "_law_are_ints", "_law_is_told", "_law_things", "_law_is_right", "SchoolError", "NoNumber", "NoTimes", "MOST_LEGS", "MOST_LEG_TIME", "RELAY", "PRICES"]
abbrev loose : List PySem.Str := loose0 ++ loose1
set_option maxHeartbeats 0 in
theorem run (w : World) : HandSHeadRun.RunEq R (PySem.W.view R.prog [39]) hk ob 4000 loose w := by
  intro os
  kernel_rfl
theorem mk_tf : ∀ r ∈ makers, (r.1, none) ∈ tfL := by intro r hr; revert r; decide +kernel
theorem fx {K : PySem.W.Frag} {w : World} {h : Heap} {mg : Str → Option Value} (X : K.In h) (G : h.Ns mainGlobals mg) (c : He.SaysX faL fnL [] tfL exK w h K) : Fx K mg := by
  have d0 : He.SaysD faL fnL K := congrArg (fun z : He.AlT => z.1) c.t
  have m := List.all_eq_true.mp c.more
  exact ⟨He.free_ok X G (d0.fact 29 (f := .free "ValueError") rfl),
    He.free_ok X G (d0.fact 30 (f := .free "abs") rfl),
    He.free_ok X G (d0.fact 31 (f := .free "all") rfl),
    He.free_ok X G (d0.fact 32 (f := .free "any") rfl),
    He.free_ok X G (d0.fact 33 (f := .free "bool") rfl),
    He.free_ok X G (d0.fact 34 (f := .free "enumerate") rfl),
    He.free_ok X G (d0.fact 35 (f := .free "int") rfl),
    He.free_ok X G (d0.fact 36 (f := .free "isinstance") rfl),
    He.free_ok X G (d0.fact 37 (f := .free "len") rfl),
    He.free_ok X G (d0.fact 38 (f := .free "list") rfl),
    He.free_ok X G (d0.fact 39 (f := .free "max") rfl),
    He.free_ok X G (d0.fact 40 (f := .free "min") rfl),
    He.free_ok X G (d0.fact 41 (f := .free "range") rfl),
    He.free_ok X G (d0.fact 42 (f := .free "sorted") rfl),
    He.free_ok X G (d0.fact 43 (f := .free "str") rfl),
    He.free_ok X G (d0.fact 44 (f := .free "sum") rfl),
    He.free_ok X G (d0.fact 45 (f := .free "tuple") rfl),
    He.free_ok X G (d0.fact 46 (f := .free "zip") rfl),
    gloB_ok X G (m _ (List.mem_of_getElem? (i := 0) rfl)),
    gloB_ok X G (m _ (List.mem_of_getElem? (i := 1) rfl)),
    gloB_ok X G (m _ (List.mem_of_getElem? (i := 2) rfl)),
    gloB_ok X G (m _ (List.mem_of_getElem? (i := 3) rfl)),
    exB_ok X G (m _ (List.mem_of_getElem? (i := 4) rfl)),
    exB_ok X G (m _ (List.mem_of_getElem? (i := 5) rfl)),
    exB_ok X G (m _ (List.mem_of_getElem? (i := 6) rfl)),
    knB_ok X G (m _ (List.mem_of_getElem? (i := 7) rfl)),
    d0.def_ 0 (d := ⟨("is_integer", none), "is_integer", "is_integer", defArgs s_is_integer, defBody s_is_integer, defScope s_is_integer, [], []⟩) rfl,
    He.glo_ok X G (d0.fact 0 (f := .glo "is_integer") rfl),
    d0.def_ 1 (d := ⟨("is_sized", none), "is_sized", "is_sized", defArgs s_is_sized, defBody s_is_sized, defScope s_is_sized, [], []⟩) rfl,
    He.glo_ok X G (d0.fact 1 (f := .glo "is_sized") rfl),
    d0.def_ 2 (d := ⟨("all_orders", none), "all_orders", "all_orders", defArgs s_all_orders, defBody s_all_orders, defScope s_all_orders, [], []⟩) rfl,
    He.glo_ok X G (d0.fact 2 (f := .glo "all_orders") rfl),
    d0.def_ 3 (d := ⟨("relay_sum", none), "relay_sum", "relay_sum", defArgs s_relay_sum, defBody s_relay_sum, defScope s_relay_sum, [], []⟩) rfl,
    He.glo_ok X G (d0.fact 3 (f := .glo "relay_sum") rfl),
    d0.def_ 4 (d := ⟨("prices_by", none), "prices_by", "prices_by", defArgs s_prices_by, defBody s_prices_by, defScope s_prices_by, [], []⟩) rfl,
    He.glo_ok X G (d0.fact 4 (f := .glo "prices_by") rfl),
    d0.def_ 5 (d := ⟨("_law_hand", none), "_law_hand", "_law_hand", defArgs s__law_hand, defBody s__law_hand, defScope s__law_hand, [], []⟩) rfl,
    He.glo_ok X G (d0.fact 5 (f := .glo "_law_hand") rfl),
    d0.def_ 6 (d := ⟨("_law_draw", none), "_law_draw", "_law_draw", defArgs s__law_draw, defBody s__law_draw, defScope s__law_draw, [], []⟩) rfl,
    He.glo_ok X G (d0.fact 6 (f := .glo "_law_draw") rfl),
    d0.def_ 7 (d := ⟨("_law_is", none), "_law_is", "_law_is", defArgs s__law_is, defBody s__law_is, defScope s__law_is, [], []⟩) rfl,
    He.glo_ok X G (d0.fact 7 (f := .glo "_law_is") rfl),
    d0.def_ 8 (d := ⟨("_law_is_int", none), "_law_is_int", "_law_is_int", defArgs s__law_is_int, defBody s__law_is_int, defScope s__law_is_int, [], []⟩) rfl,
    He.glo_ok X G (d0.fact 8 (f := .glo "_law_is_int") rfl),
    d0.def_ 9 (d := ⟨("_law_word", none), "_law_word", "_law_word", defArgs s__law_word, defBody s__law_word, defScope s__law_word, [], []⟩) rfl,
    He.glo_ok X G (d0.fact 9 (f := .glo "_law_word") rfl),
    d0.def_ 10 (d := ⟨("_law_orders", none), "_law_orders", "_law_orders", defArgs s__law_orders, defBody s__law_orders, defScope s__law_orders, [], []⟩) rfl,
    He.glo_ok X G (d0.fact 10 (f := .glo "_law_orders") rfl),
    d0.def_ 11 (d := ⟨("_law_sum", none), "_law_sum", "_law_sum", defArgs s__law_sum, defBody s__law_sum, defScope s__law_sum, [], []⟩) rfl,
    He.glo_ok X G (d0.fact 11 (f := .glo "_law_sum") rfl),
    d0.def_ 12 (d := ⟨("is_within", none), "is_within", "is_within", defArgs s_is_within, defBody s_is_within, defScope s_is_within, [], []⟩) rfl,
    He.glo_ok X G (d0.fact 12 (f := .glo "is_within") rfl),
    d0.def_ 13 (d := ⟨("is_order", none), "is_order", "is_order", defArgs s_is_order, defBody s_is_order, defScope s_is_order, [], []⟩) rfl,
    He.glo_ok X G (d0.fact 13 (f := .glo "is_order") rfl),
    d0.def_ 14 (d := ⟨("raw_best_relay", none), "raw_best_relay", "raw_best_relay", defArgs s_raw_best_relay, defBody s_raw_best_relay, defScope s_raw_best_relay, [], []⟩) rfl,
    He.glo_ok X G (d0.fact 14 (f := .glo "raw_best_relay") rfl),
    d0.def_ 15 (d := ⟨("are_integers_of", none), "are_integers_of", "are_integers_of", defArgs s_are_integers_of, defBody s_are_integers_of, defScope s_are_integers_of, [], []⟩) rfl,
    He.glo_ok X G (d0.fact 15 (f := .glo "are_integers_of") rfl),
    d0.def_ 16 (d := ⟨("_law_some", none), "_law_some", "_law_some", defArgs s__law_some, defBody s__law_some, defScope s__law_some, [], []⟩) rfl,
    He.glo_ok X G (d0.fact 16 (f := .glo "_law_some") rfl),
    d0.def_ 17 (d := ⟨("_law_deep", none), "_law_deep", "_law_deep", defArgs s__law_deep, defBody s__law_deep, defScope s__law_deep, [], []⟩) rfl,
    He.glo_ok X G (d0.fact 17 (f := .glo "_law_deep") rfl),
    d0.def_ 18 (d := ⟨("_law_is_row", none), "_law_is_row", "_law_is_row", defArgs s__law_is_row, defBody s__law_is_row, defScope s__law_is_row, [], []⟩) rfl,
    He.glo_ok X G (d0.fact 18 (f := .glo "_law_is_row") rfl),
    d0.def_ 19 (d := ⟨("_law_are_ints", none), "_law_are_ints", "_law_are_ints", defArgs s__law_are_ints, defBody s__law_are_ints, defScope s__law_are_ints, [], []⟩) rfl,
    He.glo_ok X G (d0.fact 19 (f := .glo "_law_are_ints") rfl),
    d0.def_ 20 (d := ⟨("check_times", none), "check_times", "check_times", defArgs s_check_times, defBody s_check_times, defScope s_check_times, [], []⟩) rfl,
    He.glo_ok X G (d0.fact 20 (f := .glo "check_times") rfl),
    d0.def_ 21 (d := ⟨("_law_is_told", none), "_law_is_told", "_law_is_told", defArgs s__law_is_told, defBody s__law_is_told, defScope s__law_is_told, [], []⟩) rfl,
    He.glo_ok X G (d0.fact 21 (f := .glo "_law_is_told") rfl),
    d0.def_ 22 (d := ⟨("_law_things", none), "_law_things", "_law_things", defArgs s__law_things, defBody s__law_things, defScope s__law_things, [], []⟩) rfl,
    He.glo_ok X G (d0.fact 22 (f := .glo "_law_things") rfl),
    d0.def_ 23 (d := ⟨("best_relay", none), "best_relay", "best_relay", defArgs s_best_relay, defBody s_best_relay, defScope s_best_relay, [], []⟩) rfl,
    He.glo_ok X G (d0.fact 23 (f := .glo "best_relay") rfl),
    d0.def_ 24 (d := ⟨("check_most", none), "check_most", "check_most", defArgs s_check_most, defBody s_check_most, defScope s_check_most, [], []⟩) rfl,
    He.glo_ok X G (d0.fact 24 (f := .glo "check_most") rfl),
    d0.def_ 25 (d := ⟨("relay_told", none), "relay_told", "relay_told", defArgs s_relay_told, defBody s_relay_told, defScope s_relay_told, [], []⟩) rfl,
    He.glo_ok X G (d0.fact 25 (f := .glo "relay_told") rfl),
    d0.def_ 26 (d := ⟨("is_relay_told", none), "is_relay_told", "is_relay_told", defArgs s_is_relay_told, defBody s_is_relay_told, defScope s_is_relay_told, [], []⟩) rfl,
    He.glo_ok X G (d0.fact 26 (f := .glo "is_relay_told") rfl),
    d0.def_ 27 (d := ⟨("_law_is_right", none), "_law_is_right", "_law_is_right", defArgs s__law_is_right, defBody s__law_is_right, defScope s__law_is_right, [], []⟩) rfl,
    He.glo_ok X G (d0.fact 27 (f := .glo "_law_is_right") rfl),
    d0.def_ 28 (d := ⟨("law", none), "law", "law", defArgs s_law, defBody s_law, defScope s_law, [], []⟩) rfl,
    He.glo_ok X G (d0.fact 28 (f := .glo "law") rfl),
    of_decide_eq_true (m _ (List.mem_of_getElem? (i := 8) rfl))⟩
end K56
end K56h_

section K56w_
set_option linter.all false
set_option maxRecDepth 100000
open PySem PySem.Spec PyProof.Rows L2 Vi
/-! the ways "src", "lc", "lcp": a comprehension is run, its function found -/
local macro_rules
  | `(tactic| wp_walk using "st", $ts,*) => `(tactic| simp only [Vi.abs_i, Vi.add_ii, Vi.all_map, Vi.andThen_bad, Vi.andThen_bk, Vi.andThen_ct, Vi.andThen_er, Vi.andThen_nx, Vi.andThen_rt, Vi.bind_bad, Vi.bind_er, Vi.bind_ok, Vi.eq_bb, Vi.eq_ii, Vi.eq_ss, Vi.ge_ii, Vi.gt_ii, Vi.iBool_dict, Vi.iInt_dict, Vi.iLst_dict, Vi.iStr_dict, Vi.iTup_dict, Vi.int_i, Vi.isBool_bool, Vi.isBool_int, Vi.isBool_list, Vi.isBool_none, Vi.isBool_str, Vi.isBool_tuple, Vi.isInt_bool, Vi.isInt_int, Vi.isInt_list, Vi.isInt_none, Vi.isInt_str, Vi.isInt_tuple, Vi.isLst_bool, Vi.isLst_int, Vi.isLst_list, Vi.isLst_none, Vi.isLst_str, Vi.isLst_tuple, Vi.isStr_bool, Vi.isStr_int, Vi.isStr_list, Vi.isStr_none, Vi.isStr_str, Vi.isStr_tuple, Vi.isTup_bool, Vi.isTup_int, Vi.isTup_list, Vi.isTup_none, Vi.isTup_str, Vi.isTup_tuple, Vi.is_none, Vi.isi_bool, Vi.isi_int, Vi.isi_list, Vi.isi_str, Vi.isi_tl, Vi.isi_tuple, Vi.it_dat_list, Vi.it_dat_str, Vi.it_dat_tup, Vi.kCel_0, Vi.kCel_1, Vi.kCel_2, Vi.kCel_3, Vi.kCel_4, Vi.kCel_5, Vi.kCel_6, Vi.kCel_7, Vi.kCel_8, Vi.kCel_9, Vi.kCel_10, Vi.kCel_11, Vi.kCel_12, Vi.kCel_13, Vi.kCel_14, Vi.kCel_15, Vi.kCel_16, Vi.kLst_17, Vi.kLst_18, Vi.kLst_19, Vi.kLst_20, Vi.kLst_21, Vi.kLst_22, Vi.kLst_23, Vi.kLst_24, Vi.kTup_9, Vi.kTup_10, Vi.kTup_11, Vi.kTup_12, Vi.kTup_13, Vi.kEnum_l, Vi.kEnum_t, Vi.kLst_0, Vi.kLst_1, Vi.kLst_10, Vi.kLst_11, Vi.kLst_12, Vi.kLst_13, Vi.kLst_14, Vi.kLst_15, Vi.kLst_16, Vi.kLst_2, Vi.kLst_3, Vi.kLst_4, Vi.kLst_5, Vi.kLst_6, Vi.kLst_7, Vi.kLst_8, Vi.kLst_9, Vi.kTup_0, Vi.kTup_1, Vi.kTup_2, Vi.kTup_3, Vi.kTup_4, Vi.kTup_5, Vi.kTup_6, Vi.kTup_7, Vi.kTup_8, Vi.kZip_ll, Vi.kZip_lt, Vi.kZip_tl, Vi.kZip_tt, Vi.le_ii, Vi.leave_dat, Vi.leave_self, Vi.len_l, Vi.len_t, Vi.list_l, Vi.list_t, Vi.lt_ii, Vi.max_ii, Vi.min_ii, Vi.ne_bb, Vi.ne_ss, Vi.ne_ii, Vi.sl_l, Vi.sl_t, Vi.sub_ii, Vi.trim_self, Vi.tuple_l, Vi.tuple_t, Vi.turn_bad, Vi.turn_bk, Vi.turn_ct, Vi.turn_er, Vi.turn_nx, Vi.turn_rt, Vi.tyC_e, Vi.tyC_l, Vi.tyC_s, Vi.tyC_t, Vi.wipe_0, Vi.wipe_bad, Vi.wipe_bk, Vi.wipe_c, Vi.wipe_ct, Vi.wipe_er, Vi.wipe_nx, Vi.wipe_rt, Vi.x_C, Vi.x_and, Vi.x_app, Vi.x_asg, Vi.x_bin, Vi.x_brk, Vi.x_call, Vi.x_cel, Vi.x_chain, Vi.x_cnt, Vi.x_cons, Vi.x_dats0, Vi.x_datsS, Vi.x_dead, Vi.x_drop, Vi.x_frz, Vi.x_if, Vi.x_ifS, Vi.x_isE, Vi.x_isi, Vi.x_it, Vi.x_ita, Vi.x_kAnd, Vi.x_kChain, Vi.x_kNeg, Vi.x_kNot, Vi.x_kOr, Vi.x_kPar, Vi.x_kTest, Vi.x_lst, Vi.x_meth, Vi.x_neg, Vi.x_next, Vi.x_nil, Vi.x_noPart, Vi.x_not, Vi.x_ok, Vi.x_one, Vi.x_or, Vi.x_par, Vi.x_partG, Vi.kPart_i, Vi.tkM, Vi.dpM, Vi.rvM, Vi.cut_tn, Vi.cut_dn, Vi.cut_tn1, Vi.cut_dn1, Vi.cut_mapS, Vi.cut_d1, Vi.cut_t1, Vi.rev_t, Vi.rev_l, Vi.x_par, Vi.x_kPar, Vi.x_parN, Vi.kParN_0, Vi.kParN_c, List.length_map, Vi.toDat_e, Vi.tup_r, Vi.frz_r, Vi.it_r, List.mem_singleton, List.mem_cons, true_or, or_true, Vi.x_raise, Vi.x_ret, Vi.x_retN, Vi.x_rev, Vi.x_seq, Vi.x_set, Vi.x_sl, Vi.x_store, Vi.x_tAnd, Vi.x_tNot, Vi.x_tOr, Vi.x_test, Vi.x_tup, Vi.x_two, Vi.x_var0, Vi.x_varS, Vi.x_yes, Vi.st_ok', Vi.Out.st_er, Vi.Out.st_bad, Vi.kAsg, Vi.asgT, Vi.asgTs, List.set_cons_succ, List.set_cons_zero, List.map_cons, List.map_nil, List.length_cons, List.length_nil, List.replicate, List.cons_append, List.nil_append, Nat.reduceAdd, Nat.reduceSub, Int.reduceAdd, Int.reduceSub, Int.reduceMul, Int.reduceNeg, if_true, if_false, reduceIte, Bool.not_true, Bool.not_false, Bool.false_eq_true, Bool.true_and, Bool.false_and, Bool.and_true, Bool.and_false, Bool.true_or, Bool.false_or, Bool.or_true, Bool.or_false, decide_true, decide_false, beq_self_eq_true, $[$ts:term],*])
local macro_rules
  | `(tactic| walk_at "st") => `(tactic| wp_walk using "st", id_eq)
local macro_rules
  | `(tactic| walk_at "src") => `(tactic| first | exact src_tup_of _ _ | exact src_list_of _ _ | exact src_rn _ | exact src_en_l _ _ | exact src_en_t _ _ | exact src_z_ll _ _ _ _ | exact src_z_lt _ _ _ _ | exact src_z_tl _ _ _ _ | exact src_z_tt _ _ _ _ | exact src_ri _ _ | exact src_id_t _ | exact src_id_l _)
local macro_rules
  | `(tactic| walk_at "hz") => `(tactic| first | (simp only [size_is, List.length_range, List.length_map, List.length_zipIdx, List.length_zip]; omega) | (simp [size_is]; omega) | (simp [size_is]; done) | exact Nat.le_trans (List.length_filter_le _ _) (by simp [size_is]; omega))
local macro_rules
  | `(tactic| wp_walk using "ev", $ts,*) => `(tactic| first | (simp [$[$ts:term],*, -List.map_tail, -List.drop_one, -List.map_drop, -List.map_take, -List.map_reverse, -List.all_eq_true, -List.any_eq_true, -List.getD_eq_getElem?_getD]; done) | (simp [$[$ts:term],*, -List.map_tail, -List.drop_one, -List.map_drop, -List.map_take, -List.map_reverse, -List.all_eq_true, -List.any_eq_true, -List.getD_eq_getElem?_getD]; exact rfl) | (simp [$[$ts:term],*, -List.map_tail, -List.drop_one, -List.map_drop, -List.map_take, -List.map_reverse, -List.all_eq_true, -List.any_eq_true, -List.getD_eq_getElem?_getD]; exact kRng1_n (by omega)) | (simp [$[$ts:term],*, -List.map_tail, -List.drop_one, -List.map_drop, -List.map_take, -List.map_reverse, -List.all_eq_true, -List.any_eq_true, -List.getD_eq_getElem?_getD]; exact kRng1_i (by omega) (by omega)) | (simp [$[$ts:term],*, -List.map_tail, -List.drop_one, -List.map_drop, -List.map_take, -List.map_reverse, -List.all_eq_true, -List.any_eq_true, -List.getD_eq_getElem?_getD]; exact kRng2_i (by omega) (by omega) (by omega) (by omega)))
local macro_rules
  | `(tactic| wp_walk using "lc", $ts,*) => `(tactic| (
      rw [lc_y ?hi ?hs ?hz ?hx]
      (case hi => wp_walk using "ev", $ts,*)
      (case hs => walk_at "src")
      (case hz => walk_at "hz")
      (case hx => (intro a ha; refine ⟨_, rfl, fun g => ?_⟩; wp_walk using "ev", $ts,*))))
local macro_rules
  | `(tactic| wp_walk using "lcp", $ts,*) => `(tactic| (
      rw [lc_p ?hi ?hs ?hz ?ht ?hx]
      (case hi => wp_walk using "ev", $ts,*)
      (case hs => walk_at "src")
      (case hz => walk_at "hz")
      (case ht => (intro a ha; refine ⟨_, rfl, fun g => ?_⟩; wp_walk using "ev", $ts,*))
      (case hx => (intro a ha hp; refine ⟨_, rfl, fun g => ?_⟩; wp_walk using "ev", $ts,*))))
local macro_rules
  | `(tactic| wp_walk using "s", $ts,*) => `(tactic| simp [$[$ts:term],*, -List.map_tail, -List.drop_one, -List.map_drop, -List.map_take, -List.map_reverse, -List.all_eq_true, -List.any_eq_true, -List.getD_eq_getElem?_getD])
local macro_rules
  | `(tactic| walk_at "s") => `(tactic| simp [-List.map_tail, -List.drop_one, -List.map_drop, -List.map_take, -List.map_reverse, -List.all_eq_true, -List.any_eq_true, -List.getD_eq_getElem?_getD])
local macro_rules
  | `(tactic| walk_at "lc") => `(tactic| wp_walk using "lc", id_eq)
local macro_rules
  | `(tactic| walk_at "lcp") => `(tactic| wp_walk using "lcp", id_eq)
local macro_rules
  | `(tactic| wp_walk using "lcx", $t, $ts,*) => `(tactic| (
      rw [lc_yE ?hi ?hs ?hz ?hE ?hx]
      (case hi => wp_walk using "ev", $ts,*)
      (case hs => walk_at "src")
      (case hE => exact fun a ha => rfl)
      (case hx => exact $t)
      (case hz => walk_at "hz")))
local macro_rules
  | `(tactic| wp_walk using "lcpx", $u, $t, $ts,*) => `(tactic| (
      rw [lc_pE ?hi ?hs ?hz ?hE ?ht ?hx]
      (case hi => wp_walk using "ev", $ts,*)
      (case hs => walk_at "src")
      (case hE => exact fun a ha => rfl)
      (case ht => exact $u)
      (case hx => exact $t)
      (case hz => walk_at "hz")))
local macro_rules
  | `(tactic| wp_walk using "lc2", $t, $ts,*) => `(tactic| (
      rw [lc2_yE ?hi ?hs ?hE ?hi1 ?hs1 ?hE2 ?hz ?hx]
      (case hi => wp_walk using "ev", $ts,*)
      (case hs => walk_at "src")
      (case hE => exact fun a ha => rfl)
      (case hi1 => (intro a ha g; wp_walk using "ev", $ts,*))
      (case hs1 => (intro a ha; walk_at "src"))
      (case hE2 => exact fun a ha b hb => rfl)
      (case hx => exact $t)))
local macro_rules
  | `(tactic| wp_walk using "lc2p", $u, $t, $ts,*) => `(tactic| (
      rw [lc2_pE ?hi ?hs ?hE ?hi1 ?hs1 ?hE2 ?hz ?ht ?hx]
      (case hi => wp_walk using "ev", $ts,*)
      (case hs => walk_at "src")
      (case hE => exact fun a ha => rfl)
      (case hi1 => (intro a ha g; wp_walk using "ev", $ts,*))
      (case hs1 => (intro a ha; walk_at "src"))
      (case hE2 => exact fun a ha b hb => rfl)
      (case ht => exact $u)
      (case hx => exact $t)))
local macro_rules
  | `(tactic| wp_walk using "lci", $i, $t) => `(tactic| (
      rw [lc_yE ?hi ?hs ?hz ?hE ?hx]
      (case hi => exact $i)
      (case hs => walk_at "src")
      (case hE => exact fun a ha => rfl)
      (case hx => exact $t)
      (case hz => walk_at "hz")))
local macro_rules
  | `(tactic| wp_walk using "lcpi", $i, $u, $t) => `(tactic| (
      rw [lc_pE ?hi ?hs ?hz ?hE ?ht ?hx]
      (case hi => exact $i)
      (case hs => walk_at "src")
      (case hE => exact fun a ha => rfl)
      (case ht => exact $u)
      (case hx => exact $t)
      (case hz => walk_at "hz")))
/-! sums and rests -/
local macro_rules
  | `(tactic| walk_at "ar") => `(tactic| (try simp); (repeat (first | (rw [mul_r (by decide)]; simp) | (rw [mul_l (by decide)]; simp) | (rw [mod_ii (by decide)]; simp) | (rw [div_ii (by decide) (log_small (by decide) (by decide))]; simp) | (rw [pow_ii (by decide)]; simp) | (rw [mul_l (mod_small (by decide) (by decide))]; simp))))
local macro_rules
  | `(tactic| wp_walk using "lcf", $f, $t, $ts,*) => `(tactic| (
      rw [lc_yE (f := $f) ?hi ?hs ?hz ?hE ?hx]
      (case hi => wp_walk using "ev", $ts,*)
      (case hs => walk_at "src")
      (case hE => exact fun a ha => rfl)
      (case hx => exact $t)
      (case hz => walk_at "hz")))
namespace K56
open Bas
/-! # walks along legs; no way round is cheaper than nothing -/
section
variable (w : Nat → Nat → Int)
def W : List Nat → Int
  | a :: b :: l => w a b + W (b :: l)
  | _ => 0
def nx : List Nat → Nat → Nat
  | a :: b :: l, u => if u = a then b else nx (b :: l) u
  | _, u => u
variable {w}
theorem W_app : ∀ (a : List Nat) (x : Nat) (c : List Nat), W w (a ++ x :: c) = W w (a ++ [x]) + W w (x :: c)
  | [], x, c => by simp [W]
  | [a], x, c => by simp [W]
  | a :: b :: l, x, c => by
    have ih := W_app (b :: l) x c
    simp only [List.cons_append] at ih ⊢
    rw [W, W, ih]
    omega
theorem nx_other : ∀ (l : List Nat) (y u : Nat), u ∉ l → nx (l ++ [y]) u = u
  | [], y, u, _ => rfl
  | [a], y, u, h => by
    have : ¬ u = a := fun z => h (by simp [z])
    simp [nx, this]
  | a :: b :: l, y, u, h => by
    have : ¬ u = a := fun z => h (by simp [z])
    have ih := nx_other (b :: l) y u fun z => h (List.mem_cons_of_mem _ z)
    simp only [List.cons_append] at ih ⊢
    rw [nx, if_neg this, ih]
theorem nx_map : ∀ (l : List Nat) (y : Nat), l.Nodup → l.map (nx (l ++ [y])) = (l ++ [y]).tail ∧ (l.map fun u => w u (nx (l ++ [y]) u)).sum = W w (l ++ [y])
  | [], y, _ => ⟨rfl, rfl⟩
  | [a], y, _ => ⟨by simp [nx], by simp [nx, W]⟩
  | a :: b :: l, y, hn => by
    obtain ⟨n1, n2⟩ := List.nodup_cons.mp hn
    obtain ⟨i1, i2⟩ := nx_map (b :: l) y n2
    have e : ∀ u ∈ b :: l, nx (a :: b :: l ++ [y]) u = nx (b :: l ++ [y]) u := fun u hu => by
      have : ¬ u = a := fun z => n1 (by rw [← z]; exact hu)
      simp only [List.cons_append]
      rw [nx, if_neg this]
    have e1 : (b :: l).map (nx (a :: b :: l ++ [y])) = (b :: l).map (nx (b :: l ++ [y])) := List.map_congr_left e
    have e2 : ((b :: l).map fun u => w u (nx (a :: b :: l ++ [y]) u)) = (b :: l).map fun u => w u (nx (b :: l ++ [y]) u) := List.map_congr_left fun u hu => by rw [e u hu]
    constructor
    · rw [List.map_cons, e1, i1]
      simp [nx]
    · rw [List.map_cons, e2, List.sum_cons, i2]
      simp [nx, W]
theorem sum_zero {g : Nat → Int} : ∀ {l : List Nat}, (∀ u ∈ l, g u = 0) → (l.map g).sum = 0
  | [], _ => rfl
  | a :: l, h => by
    rw [List.map_cons, List.sum_cons, h a (List.mem_cons_self ..), sum_zero fun u hu => h u (List.mem_cons_of_mem _ hu)]
    rfl
theorem sum_perm {l m : List Int} (p : l.Perm m) : l.sum = m.sum := by
  induction p with
  | nil => rfl
  | cons a _ ih => simp [ih]
  | swap a b l => simp; omega
  | trans _ _ h1 h2 => exact h1.trans h2
/-- a way round -/
theorem round_perm {r cyc : List Nat} {x : Nat} {b : List Nat} (hr : r.Nodup) (hc : cyc = x :: b) (hn : cyc.Nodup) (hs : ∀ u ∈ cyc, u ∈ r) (h0 : ∀ u, w u u = 0) :
    (r.map (nx (cyc ++ [x]))).Perm r ∧ (r.map fun u => w u (nx (cyc ++ [x]) u)).sum = W w (cyc ++ [x]) := by
  have pr : r.Perm (cyc ++ r.filter fun u => decide (u ∉ cyc)) := by
    refine (List.perm_ext_iff_of_nodup hr ?_).mpr fun a => ?_
    · refine List.nodup_append.mpr ⟨hn, hr.filter _, fun a ha b hb z => ?_⟩
      subst z
      have := (List.mem_filter.mp hb).2
      rw [decide_eq_true_eq] at this
      exact this ha
    · rw [List.mem_append, List.mem_filter, decide_eq_true_eq]
      constructor
      · intro h
        by_cases c : a ∈ cyc
        · exact .inl c
        · exact .inr ⟨h, c⟩
      · rintro (h | h)
        · exact hs a h
        · exact h.1
  obtain ⟨m1, m2⟩ := nx_map (w := w) cyc x hn
  have rest : ∀ u ∈ r.filter fun u => decide (u ∉ cyc), nx (cyc ++ [x]) u = u := fun u hu => by
    have := (List.mem_filter.mp hu).2
    rw [decide_eq_true_eq] at this
    exact nx_other cyc x u this
  constructor
  · refine (pr.map _).trans (List.Perm.trans ?_ pr.symm)
    rw [List.map_append, m1, (List.map_congr_left rest : (r.filter fun u => decide (u ∉ cyc)).map (nx (cyc ++ [x])) = (r.filter fun u => decide (u ∉ cyc)).map id), List.map_id]
    refine List.Perm.append_right _ ?_
    rw [hc]
    simp only [List.cons_append, List.tail_cons]
    exact List.perm_append_comm (l₁ := b) (l₂ := [x])
  · rw [sum_perm (pr.map fun u => w u (nx (cyc ++ [x]) u)), List.map_append, List.sum_append, m2, sum_zero fun u hu => by rw [rest u hu]; exact h0 u]
    omega
theorem dup_split : ∀ p : List Nat, ¬ p.Nodup → ∃ a x b c, p = a ++ x :: b ++ x :: c ∧ (x :: b).Nodup
  | [], h => absurd List.nodup_nil h
  | y :: p, h => by
    by_cases c : p.Nodup
    · have hy : y ∈ p := Classical.byContradiction fun z => h (List.nodup_cons.mpr ⟨z, c⟩)
      obtain ⟨b, d, rfl, hb⟩ := List.append_of_mem hy |>.elim fun s ⟨t, e⟩ => (⟨s, t, e, trivial⟩ : ∃ b d, p = b ++ y :: d ∧ True)
      refine ⟨[], y, b, d, by simp, List.nodup_cons.mpr ⟨fun z => ?_, (List.nodup_append.mp c).1⟩⟩
      exact (List.nodup_append.mp c).2.2 y z y (List.mem_cons_self ..) rfl
    · obtain ⟨a, x, b, d, rfl, hb⟩ := dup_split p c
      exact ⟨y :: a, x, b, d, by simp, hb⟩
/-- p is a walk of numbers below n that ends at v -/
def Wk (n : Nat) (p : List Nat) (v : Nat) : Prop := (∃ q, p = q ++ [v]) ∧ ∀ u ∈ p, u < n
theorem short_walk {n : Nat} (cyc : ∀ x b, (x :: b).Nodup → (∀ u ∈ x :: b, u < n) → 0 ≤ W w (x :: b ++ [x])) : ∀ (m : Nat) (p : List Nat) (v : Nat), p.length ≤ m → Wk n p v → ∃ q, Wk n q v ∧ q.length ≤ n ∧ W w q ≤ W w p
  | 0, p, v, hm, ⟨⟨q, e⟩, _⟩ => by
    subst e
    simp at hm
  | m + 1, p, v, hm, hp => by
    by_cases c : p.Nodup
    · refine ⟨p, hp, ?_, Int.le_refl _⟩
      have := nodup_le (m := List.range n) c fun x hx => List.mem_range.mpr (hp.2 x hx)
      simpa using this
    · obtain ⟨a, x, b, d, e, hb⟩ := dup_split p c
      obtain ⟨⟨q0, e0⟩, hlt⟩ := hp
      have h1 : Wk n (a ++ x :: d) v := by
        refine ⟨?_, fun u hu => hlt u ?_⟩
        · rcases snocCases d with rfl | ⟨d', z, rfl⟩
          · have : x = v := by
              have h2 := e.symm.trans e0
              have h3 : (a ++ x :: b) ++ [x] = q0 ++ [v] := h2
              have := List.append_inj_right' h3 rfl
              simpa using this
            subst this
            exact ⟨a, rfl⟩
          · have : z = v := by
              have h2 := e.symm.trans e0
              have h3 : (a ++ x :: b ++ x :: d') ++ [z] = q0 ++ [v] := by simpa using h2
              have := List.append_inj_right' h3 rfl
              simpa using this
            subst this
            exact ⟨a ++ x :: d', by simp⟩
        · rw [e]
          rcases List.mem_append.mp hu with h | h
          · simp [h]
          · rcases List.mem_cons.mp h with rfl | h
            · simp
            · simp [h]
      have hw : W w p = W w (a ++ x :: d) + W w (x :: b ++ [x]) := by
        rw [e, W_app (a ++ x :: b) x d, List.append_assoc, List.cons_append, W_app a x (b ++ [x]), W_app a x d]
        omega
      have hc := cyc x b hb fun u hu => hlt u (by
        rw [e]
        rcases List.mem_cons.mp hu with rfl | h
        · simp
        · simp [h])
      obtain ⟨q, q1, q2, q3⟩ := short_walk cyc m (a ++ x :: d) v (by
        rw [e] at hm
        simp at hm ⊢
        omega) h1
      exact ⟨q, q1, q2, by omega⟩
end
end K56
end K56w_

section K56x_
set_option linter.all false
set_option maxRecDepth 100000
open PySem PySem.Spec PyProof.Rows L2 Vi
/-! the ways "src", "lc", "lcp": a comprehension is run, its function found -/
local macro_rules
  | `(tactic| wp_walk using "st", $ts,*) => `(tactic| simp only [Vi.abs_i, Vi.add_ii, Vi.all_map, Vi.andThen_bad, Vi.andThen_bk, Vi.andThen_ct, Vi.andThen_er, Vi.andThen_nx, Vi.andThen_rt, Vi.bind_bad, Vi.bind_er, Vi.bind_ok, Vi.eq_bb, Vi.eq_ii, Vi.eq_ss, Vi.ge_ii, Vi.gt_ii, Vi.iBool_dict, Vi.iInt_dict, Vi.iLst_dict, Vi.iStr_dict, Vi.iTup_dict, Vi.int_i, Vi.isBool_bool, Vi.isBool_int, Vi.isBool_list, Vi.isBool_none, Vi.isBool_str, Vi.isBool_tuple, Vi.isInt_bool, Vi.isInt_int, Vi.isInt_list, Vi.isInt_none, Vi.isInt_str, Vi.isInt_tuple, Vi.isLst_bool, Vi.isLst_int, Vi.isLst_list, Vi.isLst_none, Vi.isLst_str, Vi.isLst_tuple, Vi.isStr_bool, Vi.isStr_int, Vi.isStr_list, Vi.isStr_none, Vi.isStr_str, Vi.isStr_tuple, Vi.isTup_bool, Vi.isTup_int, Vi.isTup_list, Vi.isTup_none, Vi.isTup_str, Vi.isTup_tuple, Vi.is_none, Vi.isi_bool, Vi.isi_int, Vi.isi_list, Vi.isi_str, Vi.isi_tl, Vi.isi_tuple, Vi.it_dat_list, Vi.it_dat_str, Vi.it_dat_tup, Vi.kCel_0, Vi.kCel_1, Vi.kCel_2, Vi.kCel_3, Vi.kCel_4, Vi.kCel_5, Vi.kCel_6, Vi.kCel_7, Vi.kCel_8, Vi.kCel_9, Vi.kCel_10, Vi.kCel_11, Vi.kCel_12, Vi.kCel_13, Vi.kCel_14, Vi.kCel_15, Vi.kCel_16, Vi.kLst_17, Vi.kLst_18, Vi.kLst_19, Vi.kLst_20, Vi.kLst_21, Vi.kLst_22, Vi.kLst_23, Vi.kLst_24, Vi.kTup_9, Vi.kTup_10, Vi.kTup_11, Vi.kTup_12, Vi.kTup_13, Vi.kEnum_l, Vi.kEnum_t, Vi.kLst_0, Vi.kLst_1, Vi.kLst_10, Vi.kLst_11, Vi.kLst_12, Vi.kLst_13, Vi.kLst_14, Vi.kLst_15, Vi.kLst_16, Vi.kLst_2, Vi.kLst_3, Vi.kLst_4, Vi.kLst_5, Vi.kLst_6, Vi.kLst_7, Vi.kLst_8, Vi.kLst_9, Vi.kTup_0, Vi.kTup_1, Vi.kTup_2, Vi.kTup_3, Vi.kTup_4, Vi.kTup_5, Vi.kTup_6, Vi.kTup_7, Vi.kTup_8, Vi.kZip_ll, Vi.kZip_lt, Vi.kZip_tl, Vi.kZip_tt, Vi.le_ii, Vi.leave_dat, Vi.leave_self, Vi.len_l, Vi.len_t, Vi.list_l, Vi.list_t, Vi.lt_ii, Vi.max_ii, Vi.min_ii, Vi.ne_bb, Vi.ne_ss, Vi.ne_ii, Vi.sl_l, Vi.sl_t, Vi.sub_ii, Vi.trim_self, Vi.tuple_l, Vi.tuple_t, Vi.turn_bad, Vi.turn_bk, Vi.turn_ct, Vi.turn_er, Vi.turn_nx, Vi.turn_rt, Vi.tyC_e, Vi.tyC_l, Vi.tyC_s, Vi.tyC_t, Vi.wipe_0, Vi.wipe_bad, Vi.wipe_bk, Vi.wipe_c, Vi.wipe_ct, Vi.wipe_er, Vi.wipe_nx, Vi.wipe_rt, Vi.x_C, Vi.x_and, Vi.x_app, Vi.x_asg, Vi.x_bin, Vi.x_brk, Vi.x_call, Vi.x_cel, Vi.x_chain, Vi.x_cnt, Vi.x_cons, Vi.x_dats0, Vi.x_datsS, Vi.x_dead, Vi.x_drop, Vi.x_frz, Vi.x_if, Vi.x_ifS, Vi.x_isE, Vi.x_isi, Vi.x_it, Vi.x_ita, Vi.x_kAnd, Vi.x_kChain, Vi.x_kNeg, Vi.x_kNot, Vi.x_kOr, Vi.x_kPar, Vi.x_kTest, Vi.x_lst, Vi.x_meth, Vi.x_neg, Vi.x_next, Vi.x_nil, Vi.x_noPart, Vi.x_not, Vi.x_ok, Vi.x_one, Vi.x_or, Vi.x_par, Vi.x_partG, Vi.kPart_i, Vi.tkM, Vi.dpM, Vi.rvM, Vi.cut_tn, Vi.cut_dn, Vi.cut_tn1, Vi.cut_dn1, Vi.cut_mapS, Vi.cut_d1, Vi.cut_t1, Vi.rev_t, Vi.rev_l, Vi.x_par, Vi.x_kPar, Vi.x_parN, Vi.kParN_0, Vi.kParN_c, List.length_map, Vi.toDat_e, Vi.tup_r, Vi.frz_r, Vi.it_r, List.mem_singleton, List.mem_cons, true_or, or_true, Vi.x_raise, Vi.x_ret, Vi.x_retN, Vi.x_rev, Vi.x_seq, Vi.x_set, Vi.x_sl, Vi.x_store, Vi.x_tAnd, Vi.x_tNot, Vi.x_tOr, Vi.x_test, Vi.x_tup, Vi.x_two, Vi.x_var0, Vi.x_varS, Vi.x_yes, Vi.st_ok', Vi.Out.st_er, Vi.Out.st_bad, Vi.kAsg, Vi.asgT, Vi.asgTs, List.set_cons_succ, List.set_cons_zero, List.map_cons, List.map_nil, List.length_cons, List.length_nil, List.replicate, List.cons_append, List.nil_append, Nat.reduceAdd, Nat.reduceSub, Int.reduceAdd, Int.reduceSub, Int.reduceMul, Int.reduceNeg, if_true, if_false, reduceIte, Bool.not_true, Bool.not_false, Bool.false_eq_true, Bool.true_and, Bool.false_and, Bool.and_true, Bool.and_false, Bool.true_or, Bool.false_or, Bool.or_true, Bool.or_false, decide_true, decide_false, beq_self_eq_true, $[$ts:term],*])
local macro_rules
  | `(tactic| walk_at "st") => `(tactic| wp_walk using "st", id_eq)
local macro_rules
  | `(tactic| walk_at "src") => `(tactic| first | exact src_tup_of _ _ | exact src_list_of _ _ | exact src_rn _ | exact src_en_l _ _ | exact src_en_t _ _ | exact src_z_ll _ _ _ _ | exact src_z_lt _ _ _ _ | exact src_z_tl _ _ _ _ | exact src_z_tt _ _ _ _ | exact src_ri _ _ | exact src_id_t _ | exact src_id_l _)
local macro_rules
  | `(tactic| walk_at "hz") => `(tactic| first | (simp only [size_is, List.length_range, List.length_map, List.length_zipIdx, List.length_zip]; omega) | (simp [size_is]; omega) | (simp [size_is]; done) | exact Nat.le_trans (List.length_filter_le _ _) (by simp [size_is]; omega))
local macro_rules
  | `(tactic| wp_walk using "ev", $ts,*) => `(tactic| first | (simp [$[$ts:term],*, -List.map_tail, -List.drop_one, -List.map_drop, -List.map_take, -List.map_reverse, -List.all_eq_true, -List.any_eq_true, -List.getD_eq_getElem?_getD]; done) | (simp [$[$ts:term],*, -List.map_tail, -List.drop_one, -List.map_drop, -List.map_take, -List.map_reverse, -List.all_eq_true, -List.any_eq_true, -List.getD_eq_getElem?_getD]; exact rfl) | (simp [$[$ts:term],*, -List.map_tail, -List.drop_one, -List.map_drop, -List.map_take, -List.map_reverse, -List.all_eq_true, -List.any_eq_true, -List.getD_eq_getElem?_getD]; exact kRng1_n (by omega)) | (simp [$[$ts:term],*, -List.map_tail, -List.drop_one, -List.map_drop, -List.map_take, -List.map_reverse, -List.all_eq_true, -List.any_eq_true, -List.getD_eq_getElem?_getD]; exact kRng1_i (by omega) (by omega)) | (simp [$[$ts:term],*, -List.map_tail, -List.drop_one, -List.map_drop, -List.map_take, -List.map_reverse, -List.all_eq_true, -List.any_eq_true, -List.getD_eq_getElem?_getD]; exact kRng2_i (by omega) (by omega) (by omega) (by omega)))
local macro_rules
  | `(tactic| wp_walk using "lc", $ts,*) => `(tactic| (
      rw [lc_y ?hi ?hs ?hz ?hx]
      (case hi => wp_walk using "ev", $ts,*)
      (case hs => walk_at "src")
      (case hz => walk_at "hz")
      (case hx => (intro a ha; refine ⟨_, rfl, fun g => ?_⟩; wp_walk using "ev", $ts,*))))
local macro_rules
  | `(tactic| wp_walk using "lcp", $ts,*) => `(tactic| (
      rw [lc_p ?hi ?hs ?hz ?ht ?hx]
      (case hi => wp_walk using "ev", $ts,*)
      (case hs => walk_at "src")
      (case hz => walk_at "hz")
      (case ht => (intro a ha; refine ⟨_, rfl, fun g => ?_⟩; wp_walk using "ev", $ts,*))
      (case hx => (intro a ha hp; refine ⟨_, rfl, fun g => ?_⟩; wp_walk using "ev", $ts,*))))
local macro_rules
  | `(tactic| wp_walk using "s", $ts,*) => `(tactic| simp [$[$ts:term],*, -List.map_tail, -List.drop_one, -List.map_drop, -List.map_take, -List.map_reverse, -List.all_eq_true, -List.any_eq_true, -List.getD_eq_getElem?_getD])
local macro_rules
  | `(tactic| walk_at "s") => `(tactic| simp [-List.map_tail, -List.drop_one, -List.map_drop, -List.map_take, -List.map_reverse, -List.all_eq_true, -List.any_eq_true, -List.getD_eq_getElem?_getD])
local macro_rules
  | `(tactic| walk_at "lc") => `(tactic| wp_walk using "lc", id_eq)
local macro_rules
  | `(tactic| walk_at "lcp") => `(tactic| wp_walk using "lcp", id_eq)
local macro_rules
  | `(tactic| wp_walk using "lcx", $t, $ts,*) => `(tactic| (
      rw [lc_yE ?hi ?hs ?hz ?hE ?hx]
      (case hi => wp_walk using "ev", $ts,*)
      (case hs => walk_at "src")
      (case hE => exact fun a ha => rfl)
      (case hx => exact $t)
      (case hz => walk_at "hz")))
local macro_rules
  | `(tactic| wp_walk using "lcpx", $u, $t, $ts,*) => `(tactic| (
      rw [lc_pE ?hi ?hs ?hz ?hE ?ht ?hx]
      (case hi => wp_walk using "ev", $ts,*)
      (case hs => walk_at "src")
      (case hE => exact fun a ha => rfl)
      (case ht => exact $u)
      (case hx => exact $t)
      (case hz => walk_at "hz")))
local macro_rules
  | `(tactic| wp_walk using "lc2", $t, $ts,*) => `(tactic| (
      rw [lc2_yE ?hi ?hs ?hE ?hi1 ?hs1 ?hE2 ?hz ?hx]
      (case hi => wp_walk using "ev", $ts,*)
      (case hs => walk_at "src")
      (case hE => exact fun a ha => rfl)
      (case hi1 => (intro a ha g; wp_walk using "ev", $ts,*))
      (case hs1 => (intro a ha; walk_at "src"))
      (case hE2 => exact fun a ha b hb => rfl)
      (case hx => exact $t)))
local macro_rules
  | `(tactic| wp_walk using "lc2p", $u, $t, $ts,*) => `(tactic| (
      rw [lc2_pE ?hi ?hs ?hE ?hi1 ?hs1 ?hE2 ?hz ?ht ?hx]
      (case hi => wp_walk using "ev", $ts,*)
      (case hs => walk_at "src")
      (case hE => exact fun a ha => rfl)
      (case hi1 => (intro a ha g; wp_walk using "ev", $ts,*))
      (case hs1 => (intro a ha; walk_at "src"))
      (case hE2 => exact fun a ha b hb => rfl)
      (case ht => exact $u)
      (case hx => exact $t)))
local macro_rules
  | `(tactic| wp_walk using "lci", $i, $t) => `(tactic| (
      rw [lc_yE ?hi ?hs ?hz ?hE ?hx]
      (case hi => exact $i)
      (case hs => walk_at "src")
      (case hE => exact fun a ha => rfl)
      (case hx => exact $t)
      (case hz => walk_at "hz")))
local macro_rules
  | `(tactic| wp_walk using "lcpi", $i, $u, $t) => `(tactic| (
      rw [lc_pE ?hi ?hs ?hz ?hE ?ht ?hx]
      (case hi => exact $i)
      (case hs => walk_at "src")
      (case hE => exact fun a ha => rfl)
      (case ht => exact $u)
      (case hx => exact $t)
      (case hz => walk_at "hz")))
/-! sums and rests -/
local macro_rules
  | `(tactic| walk_at "ar") => `(tactic| (try simp); (repeat (first | (rw [mul_r (by decide)]; simp) | (rw [mul_l (by decide)]; simp) | (rw [mod_ii (by decide)]; simp) | (rw [div_ii (by decide) (log_small (by decide) (by decide))]; simp) | (rw [pow_ii (by decide)]; simp) | (rw [mul_l (mod_small (by decide) (by decide))]; simp))))
local macro_rules
  | `(tactic| wp_walk using "lcf", $f, $t, $ts,*) => `(tactic| (
      rw [lc_yE (f := $f) ?hi ?hs ?hz ?hE ?hx]
      (case hi => wp_walk using "ev", $ts,*)
      (case hs => walk_at "src")
      (case hE => exact fun a ha => rfl)
      (case hx => exact $t)
      (case hz => walk_at "hz")))
namespace K56
open Bas
/-! # prices by exchanges -/
section
variable (w : Nat → Nat → Int)
def rel1 (legs : List Int) (e : Nat × Nat) : List Int := legs.set e.2 (if legs.getD e.1 0 + w e.1 e.2 < legs.getD e.2 0 then legs.getD e.1 0 + w e.1 e.2 else legs.getD e.2 0)
def relE (es : List (Nat × Nat)) (legs : List Int) : List Int := es.foldl (rel1 w) legs
def edges (n : Nat) (r : List Nat) : List (Nat × Nat) := r.flatMap fun u => (List.range n).map fun v => (u, v)
def rounds (n : Nat) (r : List Nat) : Nat → List Int → List Int
  | 0, legs => legs
  | m + 1, legs => rounds n r m (relE w (edges n r) legs)
variable {w}
theorem rel1_len (legs : List Int) (e : Nat × Nat) : (rel1 w legs e).length = legs.length := by simp [rel1]
theorem getD_set {l : List Int} {i j : Nat} {x : Int} : (l.set i x).getD j 0 = if i = j ∧ i < l.length then x else l.getD j 0 := by
  rw [List.getD_eq_getElem?_getD, List.getD_eq_getElem?_getD, List.getElem?_set]
  by_cases c : i = j
  · subst c
    by_cases c2 : i < l.length
    · simp [c2]
    · simp [c2]
  · simp [c]
theorem rel1_le (legs : List Int) (e : Nat × Nat) (v : Nat) : (rel1 w legs e).getD v 0 ≤ legs.getD v 0 := by
  unfold rel1
  rw [getD_set]
  split
  · rename_i h
    rw [← h.1]
    split <;> omega
  · exact Int.le_refl _
theorem relE_le : ∀ (es : List (Nat × Nat)) (legs : List Int) (v : Nat), (relE w es legs).getD v 0 ≤ legs.getD v 0
  | [], legs, v => Int.le_refl _
  | e :: es, legs, v => by
    have := relE_le es (rel1 w legs e) v
    have := rel1_le (w := w) legs e v
    show (relE w es (rel1 w legs e)).getD v 0 ≤ _
    omega
theorem relE_len : ∀ (es : List (Nat × Nat)) (legs : List Int), (relE w es legs).length = legs.length
  | [], legs => rfl
  | e :: es, legs => by
    show (relE w es (rel1 w legs e)).length = _
    rw [relE_len es, rel1_len]
theorem relE_edge : ∀ (es : List (Nat × Nat)) (legs : List Int) (u v : Nat), (u, v) ∈ es → v < legs.length → (relE w es legs).getD v 0 ≤ legs.getD u 0 + w u v
  | [], legs, u, v, h, _ => by cases h
  | e :: es, legs, u, v, h, hv => by
    show (relE w es (rel1 w legs e)).getD v 0 ≤ _
    rcases List.mem_cons.mp h with h | h
    · subst h
      have h1 := relE_le (w := w) es (rel1 w legs (u, v)) v
      have h2 : (rel1 w legs (u, v)).getD v 0 ≤ legs.getD u 0 + w u v := by
        unfold rel1
        rw [getD_set, if_pos ⟨rfl, hv⟩]
        simp only
        split <;> omega
      omega
    · have h1 := relE_edge es (rel1 w legs e) u v h (by rw [rel1_len]; exact hv)
      have h2 := rel1_le (w := w) legs e u
      omega
/-- each price is what some walk costs -/
def Walked (w : Nat → Nat → Int) (n : Nat) (legs : List Int) : Prop := legs.length = n ∧ ∀ v, v < n → ∃ p, Wk n p v ∧ legs.getD v 0 = W w p
theorem walked_1 {n : Nat} {legs : List Int} {e : Nat × Nat} (h : Walked w n legs) (h1 : e.1 < n) (h2 : e.2 < n) : Walked w n (rel1 w legs e) := by
  refine ⟨by rw [rel1_len]; exact h.1, fun v hv => ?_⟩
  unfold rel1
  rw [getD_set]
  split
  · rename_i c
    split
    · obtain ⟨p, ⟨⟨q, rfl⟩, hp⟩, e1⟩ := h.2 e.1 h1
      refine ⟨q ++ [e.1] ++ [v], ⟨⟨_, rfl⟩, fun u hu => ?_⟩, ?_⟩
      · rcases List.mem_append.mp hu with hu | hu
        · exact hp u hu
        · rw [List.mem_singleton] at hu
          omega
      · rw [e1, List.append_assoc, List.singleton_append, W_app q e.1 [v], c.1]
        simp [W]
    · obtain ⟨p, hp, e1⟩ := h.2 e.2 h2
      exact ⟨p, by rw [← c.1]; exact hp, e1⟩
  · exact h.2 v hv
theorem walked_E {n : Nat} : ∀ (es : List (Nat × Nat)) {legs : List Int}, Walked w n legs → (∀ e ∈ es, e.1 < n ∧ e.2 < n) → Walked w n (relE w es legs)
  | [], legs, h, _ => h
  | e :: es, legs, h, he => walked_E es (walked_1 h (he e (List.mem_cons_self ..)).1 (he e (List.mem_cons_self ..)).2) fun e' h' => he e' (List.mem_cons_of_mem _ h')
theorem edge_lt {n : Nat} {r : List Nat} (hr : ∀ u ∈ r, u < n) : ∀ e ∈ edges n r, e.1 < n ∧ e.2 < n := fun e he => by
  obtain ⟨u, hu, h⟩ := List.mem_flatMap.mp he
  obtain ⟨v, hv, rfl⟩ := List.mem_map.mp h
  exact ⟨hr u hu, List.mem_range.mp hv⟩
theorem rounds_ok {n : Nat} {r : List Nat} (hr : ∀ u ∈ r, u < n) (hall : ∀ u, u < n → u ∈ r) : ∀ (m k : Nat) (legs : List Int), Walked w n legs → (∀ p v, Wk n p v → p.length ≤ k + 1 → legs.getD v 0 ≤ W w p) →
    Walked w n (rounds w n r m legs) ∧ ∀ p v, Wk n p v → p.length ≤ k + m + 1 → (rounds w n r m legs).getD v 0 ≤ W w p
  | 0, k, legs, h1, h2 => ⟨h1, h2⟩
  | m + 1, k, legs, h1, h2 => by
    have a := walked_E (edges n r) h1 (edge_lt hr)
    obtain ⟨i1, i2⟩ := rounds_ok hr hall m (k + 1) (relE w (edges n r) legs) a (fun p v hp hl => by
      have mono := relE_le (w := w) (edges n r) legs v
      obtain ⟨⟨q, rfl⟩, hlt⟩ := hp
      rcases snocCases q with rfl | ⟨q', u, rfl⟩
      · have := h2 [v] v ⟨⟨[], rfl⟩, hlt⟩ (by simp)
        simp only [List.nil_append]
        omega
      · have hu : u < n := hlt u (by simp)
        have hv : v < n := hlt v (by simp)
        have h3 := h2 (q' ++ [u]) u ⟨⟨q', rfl⟩, fun x hx => hlt x (by simp at hx ⊢; rcases hx with hx | hx <;> simp [hx])⟩ (by simp at hl ⊢; omega)
        have h4 := relE_edge (w := w) (edges n r) legs u v (List.mem_flatMap.mpr ⟨u, hall u hu, List.mem_map.mpr ⟨v, List.mem_range.mpr hv, rfl⟩⟩) (by rw [h1.1]; exact hv)
        rw [List.append_assoc, List.singleton_append, W_app q' u [v]]
        simp only [W]
        omega)
    refine ⟨i1, fun p v hp hl => i2 p v hp (by omega)⟩
/-- no price can be lessened any more -/
theorem rounds_fix {n : Nat} {r : List Nat} (hr : ∀ u ∈ r, u < n) (hall : ∀ u, u < n → u ∈ r) (cyc : ∀ x b, (x :: b).Nodup → (∀ u ∈ x :: b, u < n) → 0 ≤ W w (x :: b ++ [x])) {u v : Nat} (hu : u < n) (hv : v < n) :
    (rounds w n r n (List.replicate n 0)).getD v 0 ≤ (rounds w n r n (List.replicate n 0)).getD u 0 + w u v := by
  have g0 : ∀ v, (List.replicate n (0 : Int)).getD v 0 = 0 := fun v => by
    rw [List.getD_eq_getElem?_getD, List.getElem?_replicate]
    split <;> rfl
  obtain ⟨h1, h2⟩ := rounds_ok (w := w) hr hall n 0 (List.replicate n 0) ⟨by simp, fun v hv => ⟨[v], ⟨⟨[], rfl⟩, fun u hu => by rw [List.mem_singleton] at hu; omega⟩, by rw [g0]; rfl⟩⟩ (fun p v hp hl => by
    obtain ⟨⟨q, rfl⟩, _⟩ := hp
    have : q = [] := List.length_eq_zero_iff.mp (by rw [List.length_append, List.length_singleton] at hl; omega)
    subst this
    rw [g0]
    simp [W])
  obtain ⟨p, hp, e⟩ := h1.2 u hu
  obtain ⟨⟨q, rfl⟩, hlt⟩ := hp
  have hp2 : Wk n (q ++ [u] ++ [v]) v := ⟨⟨_, rfl⟩, fun x hx => by
    rcases List.mem_append.mp hx with hx | hx
    · exact hlt x hx
    · rw [List.mem_singleton] at hx; omega⟩
  obtain ⟨q2, q3, q4, q5⟩ := short_walk cyc _ _ v (Nat.le_refl _) hp2
  have := h2 q2 v q3 (by omega)
  rw [e]
  rw [List.append_assoc, List.singleton_append, W_app q u [v]] at q5
  simp only [W] at q5
  omega
end
end K56
end K56x_

section K56p_
set_option linter.all false
set_option maxRecDepth 100000
open PySem PySem.Spec PyProof.Rows L2 Vi
/-! the ways "src", "lc", "lcp": a comprehension is run, its function found -/
local macro_rules
  | `(tactic| wp_walk using "st", $ts,*) => `(tactic| simp only [Vi.abs_i, Vi.add_ii, Vi.all_map, Vi.andThen_bad, Vi.andThen_bk, Vi.andThen_ct, Vi.andThen_er, Vi.andThen_nx, Vi.andThen_rt, Vi.bind_bad, Vi.bind_er, Vi.bind_ok, Vi.eq_bb, Vi.eq_ii, Vi.eq_ss, Vi.ge_ii, Vi.gt_ii, Vi.iBool_dict, Vi.iInt_dict, Vi.iLst_dict, Vi.iStr_dict, Vi.iTup_dict, Vi.int_i, Vi.isBool_bool, Vi.isBool_int, Vi.isBool_list, Vi.isBool_none, Vi.isBool_str, Vi.isBool_tuple, Vi.isInt_bool, Vi.isInt_int, Vi.isInt_list, Vi.isInt_none, Vi.isInt_str, Vi.isInt_tuple, Vi.isLst_bool, Vi.isLst_int, Vi.isLst_list, Vi.isLst_none, Vi.isLst_str, Vi.isLst_tuple, Vi.isStr_bool, Vi.isStr_int, Vi.isStr_list, Vi.isStr_none, Vi.isStr_str, Vi.isStr_tuple, Vi.isTup_bool, Vi.isTup_int, Vi.isTup_list, Vi.isTup_none, Vi.isTup_str, Vi.isTup_tuple, Vi.is_none, Vi.isi_bool, Vi.isi_int, Vi.isi_list, Vi.isi_str, Vi.isi_tl, Vi.isi_tuple, Vi.it_dat_list, Vi.it_dat_str, Vi.it_dat_tup, Vi.kCel_0, Vi.kCel_1, Vi.kCel_2, Vi.kCel_3, Vi.kCel_4, Vi.kCel_5, Vi.kCel_6, Vi.kCel_7, Vi.kCel_8, Vi.kCel_9, Vi.kCel_10, Vi.kCel_11, Vi.kCel_12, Vi.kCel_13, Vi.kCel_14, Vi.kCel_15, Vi.kCel_16, Vi.kLst_17, Vi.kLst_18, Vi.kLst_19, Vi.kLst_20, Vi.kLst_21, Vi.kLst_22, Vi.kLst_23, Vi.kLst_24, Vi.kTup_9, Vi.kTup_10, Vi.kTup_11, Vi.kTup_12, Vi.kTup_13, Vi.kEnum_l, Vi.kEnum_t, Vi.kLst_0, Vi.kLst_1, Vi.kLst_10, Vi.kLst_11, Vi.kLst_12, Vi.kLst_13, Vi.kLst_14, Vi.kLst_15, Vi.kLst_16, Vi.kLst_2, Vi.kLst_3, Vi.kLst_4, Vi.kLst_5, Vi.kLst_6, Vi.kLst_7, Vi.kLst_8, Vi.kLst_9, Vi.kTup_0, Vi.kTup_1, Vi.kTup_2, Vi.kTup_3, Vi.kTup_4, Vi.kTup_5, Vi.kTup_6, Vi.kTup_7, Vi.kTup_8, Vi.kZip_ll, Vi.kZip_lt, Vi.kZip_tl, Vi.kZip_tt, Vi.le_ii, Vi.leave_dat, Vi.leave_self, Vi.len_l, Vi.len_t, Vi.list_l, Vi.list_t, Vi.lt_ii, Vi.max_ii, Vi.min_ii, Vi.ne_bb, Vi.ne_ss, Vi.ne_ii, Vi.sl_l, Vi.sl_t, Vi.sub_ii, Vi.trim_self, Vi.tuple_l, Vi.tuple_t, Vi.turn_bad, Vi.turn_bk, Vi.turn_ct, Vi.turn_er, Vi.turn_nx, Vi.turn_rt, Vi.tyC_e, Vi.tyC_l, Vi.tyC_s, Vi.tyC_t, Vi.wipe_0, Vi.wipe_bad, Vi.wipe_bk, Vi.wipe_c, Vi.wipe_ct, Vi.wipe_er, Vi.wipe_nx, Vi.wipe_rt, Vi.x_C, Vi.x_and, Vi.x_app, Vi.x_asg, Vi.x_bin, Vi.x_brk, Vi.x_call, Vi.x_cel, Vi.x_chain, Vi.x_cnt, Vi.x_cons, Vi.x_dats0, Vi.x_datsS, Vi.x_dead, Vi.x_drop, Vi.x_frz, Vi.x_if, Vi.x_ifS, Vi.x_isE, Vi.x_isi, Vi.x_it, Vi.x_ita, Vi.x_kAnd, Vi.x_kChain, Vi.x_kNeg, Vi.x_kNot, Vi.x_kOr, Vi.x_kPar, Vi.x_kTest, Vi.x_lst, Vi.x_meth, Vi.x_neg, Vi.x_next, Vi.x_nil, Vi.x_noPart, Vi.x_not, Vi.x_ok, Vi.x_one, Vi.x_or, Vi.x_par, Vi.x_partG, Vi.kPart_i, Vi.tkM, Vi.dpM, Vi.rvM, Vi.cut_tn, Vi.cut_dn, Vi.cut_tn1, Vi.cut_dn1, Vi.cut_mapS, Vi.cut_d1, Vi.cut_t1, Vi.rev_t, Vi.rev_l, Vi.x_par, Vi.x_kPar, Vi.x_parN, Vi.kParN_0, Vi.kParN_c, List.length_map, Vi.toDat_e, Vi.tup_r, Vi.frz_r, Vi.it_r, List.mem_singleton, List.mem_cons, true_or, or_true, Vi.x_raise, Vi.x_ret, Vi.x_retN, Vi.x_rev, Vi.x_seq, Vi.x_set, Vi.x_sl, Vi.x_store, Vi.x_tAnd, Vi.x_tNot, Vi.x_tOr, Vi.x_test, Vi.x_tup, Vi.x_two, Vi.x_var0, Vi.x_varS, Vi.x_yes, Vi.st_ok', Vi.Out.st_er, Vi.Out.st_bad, Vi.kAsg, Vi.asgT, Vi.asgTs, List.set_cons_succ, List.set_cons_zero, List.map_cons, List.map_nil, List.length_cons, List.length_nil, List.replicate, List.cons_append, List.nil_append, Nat.reduceAdd, Nat.reduceSub, Int.reduceAdd, Int.reduceSub, Int.reduceMul, Int.reduceNeg, if_true, if_false, reduceIte, Bool.not_true, Bool.not_false, Bool.false_eq_true, Bool.true_and, Bool.false_and, Bool.and_true, Bool.and_false, Bool.true_or, Bool.false_or, Bool.or_true, Bool.or_false, decide_true, decide_false, beq_self_eq_true, $[$ts:term],*])
local macro_rules
  | `(tactic| walk_at "st") => `(tactic| wp_walk using "st", id_eq)
local macro_rules
  | `(tactic| walk_at "src") => `(tactic| first | exact src_tup_of _ _ | exact src_list_of _ _ | exact src_rn _ | exact src_en_l _ _ | exact src_en_t _ _ | exact src_z_ll _ _ _ _ | exact src_z_lt _ _ _ _ | exact src_z_tl _ _ _ _ | exact src_z_tt _ _ _ _ | exact src_ri _ _ | exact src_id_t _ | exact src_id_l _)
local macro_rules
  | `(tactic| walk_at "hz") => `(tactic| first | (simp only [size_is, List.length_range, List.length_map, List.length_zipIdx, List.length_zip]; omega) | (simp [size_is]; omega) | (simp [size_is]; done) | exact Nat.le_trans (List.length_filter_le _ _) (by simp [size_is]; omega))
local macro_rules
  | `(tactic| wp_walk using "ev", $ts,*) => `(tactic| first | (simp [$[$ts:term],*, -List.map_tail, -List.drop_one, -List.map_drop, -List.map_take, -List.map_reverse, -List.all_eq_true, -List.any_eq_true, -List.getD_eq_getElem?_getD]; done) | (simp [$[$ts:term],*, -List.map_tail, -List.drop_one, -List.map_drop, -List.map_take, -List.map_reverse, -List.all_eq_true, -List.any_eq_true, -List.getD_eq_getElem?_getD]; exact rfl) | (simp [$[$ts:term],*, -List.map_tail, -List.drop_one, -List.map_drop, -List.map_take, -List.map_reverse, -List.all_eq_true, -List.any_eq_true, -List.getD_eq_getElem?_getD]; exact kRng1_n (by omega)) | (simp [$[$ts:term],*, -List.map_tail, -List.drop_one, -List.map_drop, -List.map_take, -List.map_reverse, -List.all_eq_true, -List.any_eq_true, -List.getD_eq_getElem?_getD]; exact kRng1_i (by omega) (by omega)) | (simp [$[$ts:term],*, -List.map_tail, -List.drop_one, -List.map_drop, -List.map_take, -List.map_reverse, -List.all_eq_true, -List.any_eq_true, -List.getD_eq_getElem?_getD]; exact kRng2_i (by omega) (by omega) (by omega) (by omega)))
local macro_rules
  | `(tactic| wp_walk using "lc", $ts,*) => `(tactic| (
      rw [lc_y ?hi ?hs ?hz ?hx]
      (case hi => wp_walk using "ev", $ts,*)
      (case hs => walk_at "src")
      (case hz => walk_at "hz")
      (case hx => (intro a ha; refine ⟨_, rfl, fun g => ?_⟩; wp_walk using "ev", $ts,*))))
local macro_rules
  | `(tactic| wp_walk using "lcp", $ts,*) => `(tactic| (
      rw [lc_p ?hi ?hs ?hz ?ht ?hx]
      (case hi => wp_walk using "ev", $ts,*)
      (case hs => walk_at "src")
      (case hz => walk_at "hz")
      (case ht => (intro a ha; refine ⟨_, rfl, fun g => ?_⟩; wp_walk using "ev", $ts,*))
      (case hx => (intro a ha hp; refine ⟨_, rfl, fun g => ?_⟩; wp_walk using "ev", $ts,*))))
local macro_rules
  | `(tactic| wp_walk using "s", $ts,*) => `(tactic| simp [$[$ts:term],*, -List.map_tail, -List.drop_one, -List.map_drop, -List.map_take, -List.map_reverse, -List.all_eq_true, -List.any_eq_true, -List.getD_eq_getElem?_getD])
local macro_rules
  | `(tactic| walk_at "s") => `(tactic| simp [-List.map_tail, -List.drop_one, -List.map_drop, -List.map_take, -List.map_reverse, -List.all_eq_true, -List.any_eq_true, -List.getD_eq_getElem?_getD])
local macro_rules
  | `(tactic| walk_at "lc") => `(tactic| wp_walk using "lc", id_eq)
local macro_rules
  | `(tactic| walk_at "lcp") => `(tactic| wp_walk using "lcp", id_eq)
local macro_rules
  | `(tactic| wp_walk using "lcx", $t, $ts,*) => `(tactic| (
      rw [lc_yE ?hi ?hs ?hz ?hE ?hx]
      (case hi => wp_walk using "ev", $ts,*)
      (case hs => walk_at "src")
      (case hE => exact fun a ha => rfl)
      (case hx => exact $t)
      (case hz => walk_at "hz")))
local macro_rules
  | `(tactic| wp_walk using "lcpx", $u, $t, $ts,*) => `(tactic| (
      rw [lc_pE ?hi ?hs ?hz ?hE ?ht ?hx]
      (case hi => wp_walk using "ev", $ts,*)
      (case hs => walk_at "src")
      (case hE => exact fun a ha => rfl)
      (case ht => exact $u)
      (case hx => exact $t)
      (case hz => walk_at "hz")))
local macro_rules
  | `(tactic| wp_walk using "lc2", $t, $ts,*) => `(tactic| (
      rw [lc2_yE ?hi ?hs ?hE ?hi1 ?hs1 ?hE2 ?hz ?hx]
      (case hi => wp_walk using "ev", $ts,*)
      (case hs => walk_at "src")
      (case hE => exact fun a ha => rfl)
      (case hi1 => (intro a ha g; wp_walk using "ev", $ts,*))
      (case hs1 => (intro a ha; walk_at "src"))
      (case hE2 => exact fun a ha b hb => rfl)
      (case hx => exact $t)))
local macro_rules
  | `(tactic| wp_walk using "lc2p", $u, $t, $ts,*) => `(tactic| (
      rw [lc2_pE ?hi ?hs ?hE ?hi1 ?hs1 ?hE2 ?hz ?ht ?hx]
      (case hi => wp_walk using "ev", $ts,*)
      (case hs => walk_at "src")
      (case hE => exact fun a ha => rfl)
      (case hi1 => (intro a ha g; wp_walk using "ev", $ts,*))
      (case hs1 => (intro a ha; walk_at "src"))
      (case hE2 => exact fun a ha b hb => rfl)
      (case ht => exact $u)
      (case hx => exact $t)))
local macro_rules
  | `(tactic| wp_walk using "lci", $i, $t) => `(tactic| (
      rw [lc_yE ?hi ?hs ?hz ?hE ?hx]
      (case hi => exact $i)
      (case hs => walk_at "src")
      (case hE => exact fun a ha => rfl)
      (case hx => exact $t)
      (case hz => walk_at "hz")))
local macro_rules
  | `(tactic| wp_walk using "lcpi", $i, $u, $t) => `(tactic| (
      rw [lc_pE ?hi ?hs ?hz ?hE ?ht ?hx]
      (case hi => exact $i)
      (case hs => walk_at "src")
      (case hE => exact fun a ha => rfl)
      (case ht => exact $u)
      (case hx => exact $t)
      (case hz => walk_at "hz")))
/-! sums and rests -/
local macro_rules
  | `(tactic| walk_at "ar") => `(tactic| (try simp); (repeat (first | (rw [mul_r (by decide)]; simp) | (rw [mul_l (by decide)]; simp) | (rw [mod_ii (by decide)]; simp) | (rw [div_ii (by decide) (log_small (by decide) (by decide))]; simp) | (rw [pow_ii (by decide)]; simp) | (rw [mul_l (mod_small (by decide) (by decide))]; simp))))
local macro_rules
  | `(tactic| wp_walk using "lcf", $f, $t, $ts,*) => `(tactic| (
      rw [lc_yE (f := $f) ?hi ?hs ?hz ?hE ?hx]
      (case hi => wp_walk using "ev", $ts,*)
      (case hs => walk_at "src")
      (case hE => exact fun a ha => rfl)
      (case hx => exact $t)
      (case hz => walk_at "hz")))
namespace K56
open Bas
@[simp] theorem p_is_sized (d : PyData) (lo hi : Int) (h : Hep) : m_is_sized [.dat d, .dat (.int lo), .dat (.int hi)] h = .ok (.dat (.bool (sizedB d lo hi))) h := Bas.p_is_sized d lo hi h
@[simp] theorem p_is_integer (d : PyData) (h : Hep) : m_is_integer [.dat d] h = .ok (.dat (.bool (intB d))) h := Bas.p_is_integer d h
@[simp] theorem p_is_within (d : PyData) (lo hi : Int) (h : Hep) : m_is_within [.dat d, .dat (.int lo), .dat (.int hi)] h = .ok (.dat (.bool (withinB d lo hi))) h := Bas.p_is_within d lo hi h
theorem p_is_order (d : PyData) (n : Nat) (hn : n ≤ 1000) (h : Hep) : m_is_order [.dat d, .dat (.int n)] h = .ok (.dat (.bool (orderB d n))) h := Bas.p_is_order d n hn h
theorem p_all_orders (n : Nat) (hn : n ≤ 7) (h : Hep) : m_all_orders [.dat (.int n)] h = .ok (.dat (.list ((allO n).map rowD))) h := Bas.p_all_orders n hn h
theorem p_law_orders (n : Nat) (hn : n ≤ 7) (h : Hep) : m__law_orders [.dat (.int n)] h = .ok (.dat (.list ((allO n).map rowD))) h := Bas.p_all_orders n hn h
/-! # times -/
def iT (l : List Int) : PyData := .tuple (l.map .int)
def tD (T : List (List Int)) : PyData := .tuple (T.map iT)
def rowOk : PyData → Bool
  | .tuple ys => ys.all (withinB · 0 1000)
  | _ => false
def rowB (n : Nat) : PyData → Bool
  | .tuple xs => decide (xs.length = n) && xs.all (withinB · 0 1000)
  | _ => false
def timesB : PyData → Bool
  | .tuple xs => (decide (1 ≤ xs.length) && decide (xs.length ≤ 6)) && xs.all (rowB xs.length)
  | _ => false
structure Ts (T : List (List Int)) (n : Nat) : Prop where
  len : T.length = n
  lo : 1 ≤ n
  hi : n ≤ 6
  row : ∀ r ∈ T, r.length = n
  ok : ∀ r ∈ T, ∀ t ∈ r, 0 ≤ t ∧ t ≤ 1000
theorem Ts.times {T : List (List Int)} {n : Nat} (h : Ts T n) : timesB (tD T) = true := by
  have := h.lo
  have := h.hi
  have := h.len
  simp only [timesB, tD, List.length_map, Bool.and_eq_true, decide_eq_true_eq]
  refine ⟨⟨by omega, by omega⟩, List.all_eq_true.mpr fun x hx => ?_⟩
  obtain ⟨r, hr, rfl⟩ := List.mem_map.mp hx
  simp only [rowB, iT, List.length_map, Bool.and_eq_true, decide_eq_true_eq]
  refine ⟨by rw [h.row r hr, h.len], List.all_eq_true.mpr fun y hy => ?_⟩
  obtain ⟨t, ht, rfl⟩ := List.mem_map.mp hy
  have := h.ok r hr t ht
  simp only [withinB, Bool.and_eq_true, decide_eq_true_eq]
  omega
def short2 : PyData → Bool
  | .tuple xs => decide (xs.length ≤ 1000) && xs.all shortB
  | _ => true
theorem p_check_times (d : PyData) (hz : short2 d = true) (h : Hep) : m_check_times [.dat d] h = if timesB d = true then .ok (.dat .none) h else .er ⟨"NoTimes", none⟩ h := by
  unfold m_check_times mFun b_check_times
  cases d <;> simp only [timesB] <;> try wp_walk using "st", p_is_sized, sizedB, c_MOST_LEGS
  rename_i xs
  simp only [short2, Bool.and_eq_true, decide_eq_true_eq] at hz
  by_cases c : 1 ≤ xs.length ∧ xs.length ≤ 6
  · have c1 : (decide ((1 : Int) ≤ xs.length) && decide ((xs.length : Int) ≤ 6)) = true := by
      rw [Bool.and_eq_true, decide_eq_true_eq, decide_eq_true_eq]; omega
    have c2 : (decide (1 ≤ xs.length) && decide (xs.length ≤ 6)) = true := by
      rw [Bool.and_eq_true, decide_eq_true_eq, decide_eq_true_eq]; omega
    wp_walk using "st", c1, c2
    wp_walk using "lcx", (fun d hd g => by
      wp_walk using "st", p_is_sized
      exact rfl), id_eq
    walk_at "st"
    rcases bcase (xs.all fun d => sizedB d xs.length xs.length) with q | q
    · have hrow : ∀ d ∈ xs, ∃ ys, d = .tuple ys ∧ ys.length = xs.length := fun d hd => by
        have z := List.all_eq_true.mp q d hd
        cases d <;> simp only [sizedB, Bool.false_eq_true] at z
        rename_i ys
        rw [Bool.and_eq_true, decide_eq_true_eq, decide_eq_true_eq] at z
        exact ⟨ys, rfl, by omega⟩
      wp_walk using "st", q
      wp_walk using "lcf", (fun d => PyData.bool (rowOk d)), (fun d hd g => by
        obtain ⟨ys, rfl, hy⟩ := hrow d hd
        walk_at "st"
        wp_walk using "lcx", (fun e he g => by
          wp_walk using "st", p_is_within, c_MOST_LEG_TIME
          exact rfl), id_eq
        walk_at "st"
        rfl), id_eq
      have e : xs.all (rowB xs.length) = xs.all rowOk := by
        rw [Bool.eq_iff_iff, List.all_eq_true, List.all_eq_true]
        constructor
        · intro z d hd
          obtain ⟨ys, rfl, hy⟩ := hrow d hd
          have := z _ hd
          simp only [rowB, Bool.and_eq_true] at this
          exact this.2
        · intro z d hd
          obtain ⟨ys, rfl, hy⟩ := hrow d hd
          have := z _ hd
          simp only [rowB, Bool.and_eq_true, decide_eq_true_eq]
          exact ⟨hy, this⟩
      rw [e]
      walk_at "st"
      rcases bcase (xs.all rowOk) with q2 | q2
      · wp_walk using "st", q2
      · wp_walk using "st", q2
    · have e : xs.all (rowB xs.length) = false := by
        rcases bcase (xs.all (rowB xs.length)) with z | z
        · have : xs.all (fun d => sizedB d xs.length xs.length) = true := List.all_eq_true.mpr fun d hd => by
            have z := List.all_eq_true.mp z d hd
            cases d <;> simp only [rowB, Bool.false_eq_true] at z
            rw [Bool.and_eq_true, decide_eq_true_eq] at z
            simp only [sizedB, Bool.and_eq_true, decide_eq_true_eq]
            omega
          rw [this] at q
          cases q
        · exact z
      wp_walk using "st", q, e
  · have c1 : (decide ((1 : Int) ≤ xs.length) && decide ((xs.length : Int) ≤ 6)) = false := by
      rw [Bool.and_eq_false_iff, decide_eq_false_iff_not, decide_eq_false_iff_not]; omega
    have c2 : (decide (1 ≤ xs.length) && decide (xs.length ≤ 6)) = false := by
      rw [Bool.and_eq_false_iff, decide_eq_false_iff_not, decide_eq_false_iff_not]; omega
    wp_walk using "st", c1, c2
def numB : PyData → Bool
  | .int i => decide (0 ≤ i)
  | _ => false
theorem p_check_most (d e : PyData) (hz : short2 d = true) (h : Hep) : m_check_most [.dat d, .dat e] h = if timesB d = true then (if numB e = true then .ok (.dat .none) h else .er ⟨"NoNumber", none⟩ h) else .er ⟨"NoTimes", none⟩ h := by
  unfold m_check_most mFun b_check_most
  rcases bcase (timesB d) with q | q
  · cases e <;> try wp_walk using "st", p_check_times d hz, q, p_is_integer, intB, numB
    rename_i i
    by_cases c : i < 0
    · have c2 : ¬ 0 ≤ i := by omega
      wp_walk using "st", decide_eq_true c, decide_eq_false c2
    · have c2 : 0 ≤ i := by omega
      wp_walk using "st", decide_eq_false c, decide_eq_true c2
  · wp_walk using "st", p_check_times d hz, q
/-! ### sums of relays -/
def tm (T : List (List Int)) (i j : Nat) : Int := (T.getD i []).getD j 0
def sumR (T : List (List Int)) (r : List Nat) : Int := (r.zipIdx.map fun p => tm T p.2 p.1).sum
structure Rel (n : Nat) (r : List Nat) : Prop where
  len : r.length = n
  lt : ∀ u ∈ r, u < n
  nd : r.Nodup
theorem rel_all {n : Nat} {r : List Nat} : r ∈ allO n ↔ Rel n r := by
  rw [allO_mem]
  exact ⟨fun h => ⟨h.1, h.2.1, h.2.2⟩, fun h => ⟨h.1, h.2, h.3⟩⟩
theorem ix_T {T : List (List Int)} {n i j : Nat} (H : Ts T n) (hi : i < n) (hj : j < n) : (∀ g, dIx (.dat (tD T)) (.dat (.int i)) g = .ok (.dat (iT (T.getD i []))) g) ∧ ∀ g, dIx (.dat (iT (T.getD i []))) (.dat (.int j)) g = .ok (.dat (.int (tm T i j))) g := by
  have hi' : i < T.length := by rw [H.len]; exact hi
  have e := get_d (l := T) hi'
  refine ⟨fun g => ix_tm (inj := iT) e, fun g => ix_tm (inj := PyData.int) (l := T.getD i []) (a := tm T i j) ?_⟩
  exact get_d (l := T.getD i []) (by
    have : (T.getD i []).length = n := H.row _ (List.mem_of_getElem? e)
    omega)
theorem zip_zipIdx {T : List (List Int)} {n : Nat} (H : Ts T n) {r : List Nat} (hr : r.length = n) : T.zip r = r.zipIdx.map fun p => (T.getD p.2 [], p.1) := by
  apply List.ext_getElem?
  intro i
  rw [List.getElem?_map, List.getElem?_zipIdx]
  by_cases c : i < n
  · have h1 : i < T.length := by rw [H.len]; exact c
    have h2 : i < r.length := by omega
    rw [List.getElem?_eq_getElem (by simp; omega), List.getElem?_eq_getElem h2]
    simp only [List.getElem_zip, Option.map_some, Option.some.injEq, Prod.mk.injEq]
    simp [List.getD_eq_getElem?_getD, h1]
  · rw [List.getElem?_eq_none (by simp; omega), List.getElem?_eq_none (by omega)]
    rfl
theorem p_relay_sum {T : List (List Int)} {n : Nat} (H : Ts T n) {r : List Nat} (R : Rel n r) (h : Hep) : m_relay_sum [.dat (tD T), .dat (rowD r)] h = .ok (.dat (.int (sumR T r))) h := by
  unfold m_relay_sum mFun b_relay_sum
  have := H.hi
  have := H.len
  have := R.len
  walk_at "st"
  wp_walk using "lcf", (fun p : List Int × Nat => PyData.int (p.1.getD p.2 0)), (fun p hp g => by
    rw [zip_zipIdx H R.len] at hp
    obtain ⟨q, hq, rfl⟩ := List.mem_map.mp hp
    have h1 := List.mem_zipIdx hq
    have h2 : q.1 ∈ r := by rw [h1.2.2]; exact List.getElem_mem _
    have h3 : q.2 < n := by omega
    have e := (ix_T H h3 (R.lt _ h2)).2 g
    unfold iT tm at e
    wp_walk using "st", e, iT), tD, rowD
  wp_walk using "st", sum_map
  rw [zip_zipIdx H R.len, List.map_map]
  rfl
theorem p_law_sum {T : List (List Int)} {n : Nat} (H : Ts T n) {r : List Nat} (R : Rel n r) (h : Hep) : m__law_sum [.dat (tD T), .dat (rowD r)] h = .ok (.dat (.int (sumR T r))) h := by
  unfold m__law_sum mFun b__law_sum
  have := H.hi
  have := R.len
  walk_at "st"
  wp_walk using "lcf", (fun p : Nat × Nat => PyData.int (tm T p.2 p.1)), (fun q hq g => by
    have h1 := List.mem_zipIdx hq
    have h2 : q.1 ∈ r := by rw [h1.2.2]; exact List.getElem_mem _
    have h3 : q.2 < n := by omega
    have e := (ix_T H h3 (R.lt _ h2)).2 g
    have e1 := (ix_T H h3 (R.lt _ h2)).1 g
    wp_walk using "st", e1, e), rowD
  wp_walk using "st", sum_map
  rfl
abbrev dRel : DT (Int × List Nat) := d2 dInt (dTup dNat)
def relD (p : Int × List Nat) : PyData := .tuple [.int p.1, rowD p.2]
/-- the best relay -/
def Best (T : List (List Int)) (n : Nat) (m : Int × List Nat) : Prop := dRel.IsMin m ((allO n).map fun r => (sumR T r, r))
theorem best_ex {T : List (List Int)} {n : Nat} : ∃ m, Best T n m ∧ ∀ h, fMin [.dat (.list ((allO n).map fun r => .tuple [.int (sumR T r), rowD r]))] h = .ok (.dat (relD m)) h := by
  have ne : (allO n).map (fun r => (sumR T r, r)) ≠ [] := fun z => allO_ne n (List.map_eq_nil_iff.mp z)
  obtain ⟨m, e, hm⟩ := dRel.min_l (h := []) (l := (allO n).map fun r => (sumR T r, r)) (by decide) ne
  refine ⟨m, hm, fun h => ?_⟩
  obtain ⟨m', e', hm'⟩ := dRel.min_l (h := h) (l := (allO n).map fun r => (sumR T r, r)) (by decide) ne
  rw [hm'.uniq hm fun x => Iff.rfl, List.map_map] at e'
  exact e'
theorem Best.rel {T : List (List Int)} {n : Nat} {m : Int × List Nat} (h : Best T n m) : Rel n m.2 ∧ m.1 = sumR T m.2 ∧ ∀ r, Rel n r → m.1 ≤ sumR T r := by
  obtain ⟨r, hr, e⟩ := List.mem_map.mp h.1
  refine ⟨by rw [← e]; exact rel_all.mp hr, by rw [← e], fun r hr => ?_⟩
  have q := h.2 (sumR T r, r) (List.mem_map.mpr ⟨r, rel_all.mpr hr, rfl⟩)
  rw [d2_lt] at q
  simp only [Bool.or_eq_false_iff, dInt_lt, decide_eq_false_iff_not] at q
  omega
theorem p_raw_best {T : List (List Int)} {n : Nat} (H : Ts T n) : ∃ m, Best T n m ∧ (∀ h, m_raw_best_relay [.dat (tD T)] h = .ok (.dat (relD m)) h) ∧ ∀ h, fMin [.dat (.list ((allO n).map fun r => .tuple [.int (sumR T r), rowD r]))] h = .ok (.dat (relD m)) h := by
  obtain ⟨m, hm, e⟩ := best_ex (T := T) (n := n)
  refine ⟨m, hm, fun h => ?_, e⟩
  unfold m_raw_best_relay mFun b_raw_best_relay
  have e1 := fun g => p_all_orders n (by have := H.hi; omega) g
  have ll := allO_len (n := n) (by have := H.hi; omega)
  have hl : (T.map iT).length = n := by rw [List.length_map, H.len]
  walk_at "st"
  wp_walk using "lci", (by
    wp_walk using "st", tD, H.len, e1
    exact rfl), (fun r hr g => by
    have e2 := p_relay_sum H (rel_all.mp hr) g
    wp_walk using "st", e2
    exact rfl)
  wp_walk using "st", e
end K56
end K56p_

section K56q_
set_option linter.all false
set_option maxRecDepth 100000
open PySem PySem.Spec PyProof.Rows L2 Vi
/-! the ways "src", "lc", "lcp": a comprehension is run, its function found -/
local macro_rules
  | `(tactic| wp_walk using "st", $ts,*) => `(tactic| simp only [Vi.abs_i, Vi.add_ii, Vi.all_map, Vi.andThen_bad, Vi.andThen_bk, Vi.andThen_ct, Vi.andThen_er, Vi.andThen_nx, Vi.andThen_rt, Vi.bind_bad, Vi.bind_er, Vi.bind_ok, Vi.eq_bb, Vi.eq_ii, Vi.eq_ss, Vi.ge_ii, Vi.gt_ii, Vi.iBool_dict, Vi.iInt_dict, Vi.iLst_dict, Vi.iStr_dict, Vi.iTup_dict, Vi.int_i, Vi.isBool_bool, Vi.isBool_int, Vi.isBool_list, Vi.isBool_none, Vi.isBool_str, Vi.isBool_tuple, Vi.isInt_bool, Vi.isInt_int, Vi.isInt_list, Vi.isInt_none, Vi.isInt_str, Vi.isInt_tuple, Vi.isLst_bool, Vi.isLst_int, Vi.isLst_list, Vi.isLst_none, Vi.isLst_str, Vi.isLst_tuple, Vi.isStr_bool, Vi.isStr_int, Vi.isStr_list, Vi.isStr_none, Vi.isStr_str, Vi.isStr_tuple, Vi.isTup_bool, Vi.isTup_int, Vi.isTup_list, Vi.isTup_none, Vi.isTup_str, Vi.isTup_tuple, Vi.is_none, Vi.isi_bool, Vi.isi_int, Vi.isi_list, Vi.isi_str, Vi.isi_tl, Vi.isi_tuple, Vi.it_dat_list, Vi.it_dat_str, Vi.it_dat_tup, Vi.kCel_0, Vi.kCel_1, Vi.kCel_2, Vi.kCel_3, Vi.kCel_4, Vi.kCel_5, Vi.kCel_6, Vi.kCel_7, Vi.kCel_8, Vi.kCel_9, Vi.kCel_10, Vi.kCel_11, Vi.kCel_12, Vi.kCel_13, Vi.kCel_14, Vi.kCel_15, Vi.kCel_16, Vi.kLst_17, Vi.kLst_18, Vi.kLst_19, Vi.kLst_20, Vi.kLst_21, Vi.kLst_22, Vi.kLst_23, Vi.kLst_24, Vi.kTup_9, Vi.kTup_10, Vi.kTup_11, Vi.kTup_12, Vi.kTup_13, Vi.kEnum_l, Vi.kEnum_t, Vi.kLst_0, Vi.kLst_1, Vi.kLst_10, Vi.kLst_11, Vi.kLst_12, Vi.kLst_13, Vi.kLst_14, Vi.kLst_15, Vi.kLst_16, Vi.kLst_2, Vi.kLst_3, Vi.kLst_4, Vi.kLst_5, Vi.kLst_6, Vi.kLst_7, Vi.kLst_8, Vi.kLst_9, Vi.kTup_0, Vi.kTup_1, Vi.kTup_2, Vi.kTup_3, Vi.kTup_4, Vi.kTup_5, Vi.kTup_6, Vi.kTup_7, Vi.kTup_8, Vi.kZip_ll, Vi.kZip_lt, Vi.kZip_tl, Vi.kZip_tt, Vi.le_ii, Vi.leave_dat, Vi.leave_self, Vi.len_l, Vi.len_t, Vi.list_l, Vi.list_t, Vi.lt_ii, Vi.max_ii, Vi.min_ii, Vi.ne_bb, Vi.ne_ss, Vi.ne_ii, Vi.sl_l, Vi.sl_t, Vi.sub_ii, Vi.trim_self, Vi.tuple_l, Vi.tuple_t, Vi.turn_bad, Vi.turn_bk, Vi.turn_ct, Vi.turn_er, Vi.turn_nx, Vi.turn_rt, Vi.tyC_e, Vi.tyC_l, Vi.tyC_s, Vi.tyC_t, Vi.wipe_0, Vi.wipe_bad, Vi.wipe_bk, Vi.wipe_c, Vi.wipe_ct, Vi.wipe_er, Vi.wipe_nx, Vi.wipe_rt, Vi.x_C, Vi.x_and, Vi.x_app, Vi.x_asg, Vi.x_bin, Vi.x_brk, Vi.x_call, Vi.x_cel, Vi.x_chain, Vi.x_cnt, Vi.x_cons, Vi.x_dats0, Vi.x_datsS, Vi.x_dead, Vi.x_drop, Vi.x_frz, Vi.x_if, Vi.x_ifS, Vi.x_isE, Vi.x_isi, Vi.x_it, Vi.x_ita, Vi.x_kAnd, Vi.x_kChain, Vi.x_kNeg, Vi.x_kNot, Vi.x_kOr, Vi.x_kPar, Vi.x_kTest, Vi.x_lst, Vi.x_meth, Vi.x_neg, Vi.x_next, Vi.x_nil, Vi.x_noPart, Vi.x_not, Vi.x_ok, Vi.x_one, Vi.x_or, Vi.x_par, Vi.x_partG, Vi.kPart_i, Vi.tkM, Vi.dpM, Vi.rvM, Vi.cut_tn, Vi.cut_dn, Vi.cut_tn1, Vi.cut_dn1, Vi.cut_mapS, Vi.cut_d1, Vi.cut_t1, Vi.rev_t, Vi.rev_l, Vi.x_par, Vi.x_kPar, Vi.x_parN, Vi.kParN_0, Vi.kParN_c, List.length_map, Vi.toDat_e, Vi.tup_r, Vi.frz_r, Vi.it_r, List.mem_singleton, List.mem_cons, true_or, or_true, Vi.x_raise, Vi.x_ret, Vi.x_retN, Vi.x_rev, Vi.x_seq, Vi.x_set, Vi.x_sl, Vi.x_store, Vi.x_tAnd, Vi.x_tNot, Vi.x_tOr, Vi.x_test, Vi.x_tup, Vi.x_two, Vi.x_var0, Vi.x_varS, Vi.x_yes, Vi.st_ok', Vi.Out.st_er, Vi.Out.st_bad, Vi.kAsg, Vi.asgT, Vi.asgTs, List.set_cons_succ, List.set_cons_zero, List.map_cons, List.map_nil, List.length_cons, List.length_nil, List.replicate, List.cons_append, List.nil_append, Nat.reduceAdd, Nat.reduceSub, Int.reduceAdd, Int.reduceSub, Int.reduceMul, Int.reduceNeg, if_true, if_false, reduceIte, Bool.not_true, Bool.not_false, Bool.false_eq_true, Bool.true_and, Bool.false_and, Bool.and_true, Bool.and_false, Bool.true_or, Bool.false_or, Bool.or_true, Bool.or_false, decide_true, decide_false, beq_self_eq_true, $[$ts:term],*])
local macro_rules
  | `(tactic| walk_at "st") => `(tactic| wp_walk using "st", id_eq)
local macro_rules
  | `(tactic| walk_at "src") => `(tactic| first | exact src_tup_of _ _ | exact src_list_of _ _ | exact src_rn _ | exact src_en_l _ _ | exact src_en_t _ _ | exact src_z_ll _ _ _ _ | exact src_z_lt _ _ _ _ | exact src_z_tl _ _ _ _ | exact src_z_tt _ _ _ _ | exact src_ri _ _ | exact src_id_t _ | exact src_id_l _)
local macro_rules
  | `(tactic| walk_at "hz") => `(tactic| first | (simp only [size_is, List.length_range, List.length_map, List.length_zipIdx, List.length_zip]; omega) | (simp [size_is]; omega) | (simp [size_is]; done) | exact Nat.le_trans (List.length_filter_le _ _) (by simp [size_is]; omega))
local macro_rules
  | `(tactic| wp_walk using "ev", $ts,*) => `(tactic| first | (simp [$[$ts:term],*, -List.map_tail, -List.drop_one, -List.map_drop, -List.map_take, -List.map_reverse, -List.all_eq_true, -List.any_eq_true, -List.getD_eq_getElem?_getD]; done) | (simp [$[$ts:term],*, -List.map_tail, -List.drop_one, -List.map_drop, -List.map_take, -List.map_reverse, -List.all_eq_true, -List.any_eq_true, -List.getD_eq_getElem?_getD]; exact rfl) | (simp [$[$ts:term],*, -List.map_tail, -List.drop_one, -List.map_drop, -List.map_take, -List.map_reverse, -List.all_eq_true, -List.any_eq_true, -List.getD_eq_getElem?_getD]; exact kRng1_n (by omega)) | (simp [$[$ts:term],*, -List.map_tail, -List.drop_one, -List.map_drop, -List.map_take, -List.map_reverse, -List.all_eq_true, -List.any_eq_true, -List.getD_eq_getElem?_getD]; exact kRng1_i (by omega) (by omega)) | (simp [$[$ts:term],*, -List.map_tail, -List.drop_one, -List.map_drop, -List.map_take, -List.map_reverse, -List.all_eq_true, -List.any_eq_true, -List.getD_eq_getElem?_getD]; exact kRng2_i (by omega) (by omega) (by omega) (by omega)))
local macro_rules
  | `(tactic| wp_walk using "lc", $ts,*) => `(tactic| (
      rw [lc_y ?hi ?hs ?hz ?hx]
      (case hi => wp_walk using "ev", $ts,*)
      (case hs => walk_at "src")
      (case hz => walk_at "hz")
      (case hx => (intro a ha; refine ⟨_, rfl, fun g => ?_⟩; wp_walk using "ev", $ts,*))))
local macro_rules
  | `(tactic| wp_walk using "lcp", $ts,*) => `(tactic| (
      rw [lc_p ?hi ?hs ?hz ?ht ?hx]
      (case hi => wp_walk using "ev", $ts,*)
      (case hs => walk_at "src")
      (case hz => walk_at "hz")
      (case ht => (intro a ha; refine ⟨_, rfl, fun g => ?_⟩; wp_walk using "ev", $ts,*))
      (case hx => (intro a ha hp; refine ⟨_, rfl, fun g => ?_⟩; wp_walk using "ev", $ts,*))))
local macro_rules
  | `(tactic| wp_walk using "s", $ts,*) => `(tactic| simp [$[$ts:term],*, -List.map_tail, -List.drop_one, -List.map_drop, -List.map_take, -List.map_reverse, -List.all_eq_true, -List.any_eq_true, -List.getD_eq_getElem?_getD])
local macro_rules
  | `(tactic| walk_at "s") => `(tactic| simp [-List.map_tail, -List.drop_one, -List.map_drop, -List.map_take, -List.map_reverse, -List.all_eq_true, -List.any_eq_true, -List.getD_eq_getElem?_getD])
local macro_rules
  | `(tactic| walk_at "lc") => `(tactic| wp_walk using "lc", id_eq)
local macro_rules
  | `(tactic| walk_at "lcp") => `(tactic| wp_walk using "lcp", id_eq)
local macro_rules
  | `(tactic| wp_walk using "lcx", $t, $ts,*) => `(tactic| (
      rw [lc_yE ?hi ?hs ?hz ?hE ?hx]
      (case hi => wp_walk using "ev", $ts,*)
      (case hs => walk_at "src")
      (case hE => exact fun a ha => rfl)
      (case hx => exact $t)
      (case hz => walk_at "hz")))
local macro_rules
  | `(tactic| wp_walk using "lcpx", $u, $t, $ts,*) => `(tactic| (
      rw [lc_pE ?hi ?hs ?hz ?hE ?ht ?hx]
      (case hi => wp_walk using "ev", $ts,*)
      (case hs => walk_at "src")
      (case hE => exact fun a ha => rfl)
      (case ht => exact $u)
      (case hx => exact $t)
      (case hz => walk_at "hz")))
local macro_rules
  | `(tactic| wp_walk using "lc2", $t, $ts,*) => `(tactic| (
      rw [lc2_yE ?hi ?hs ?hE ?hi1 ?hs1 ?hE2 ?hz ?hx]
      (case hi => wp_walk using "ev", $ts,*)
      (case hs => walk_at "src")
      (case hE => exact fun a ha => rfl)
      (case hi1 => (intro a ha g; wp_walk using "ev", $ts,*))
      (case hs1 => (intro a ha; walk_at "src"))
      (case hE2 => exact fun a ha b hb => rfl)
      (case hx => exact $t)))
local macro_rules
  | `(tactic| wp_walk using "lc2p", $u, $t, $ts,*) => `(tactic| (
      rw [lc2_pE ?hi ?hs ?hE ?hi1 ?hs1 ?hE2 ?hz ?ht ?hx]
      (case hi => wp_walk using "ev", $ts,*)
      (case hs => walk_at "src")
      (case hE => exact fun a ha => rfl)
      (case hi1 => (intro a ha g; wp_walk using "ev", $ts,*))
      (case hs1 => (intro a ha; walk_at "src"))
      (case hE2 => exact fun a ha b hb => rfl)
      (case ht => exact $u)
      (case hx => exact $t)))
local macro_rules
  | `(tactic| wp_walk using "lci", $i, $t) => `(tactic| (
      rw [lc_yE ?hi ?hs ?hz ?hE ?hx]
      (case hi => exact $i)
      (case hs => walk_at "src")
      (case hE => exact fun a ha => rfl)
      (case hx => exact $t)
      (case hz => walk_at "hz")))
local macro_rules
  | `(tactic| wp_walk using "lcpi", $i, $u, $t) => `(tactic| (
      rw [lc_pE ?hi ?hs ?hz ?hE ?ht ?hx]
      (case hi => exact $i)
      (case hs => walk_at "src")
      (case hE => exact fun a ha => rfl)
      (case ht => exact $u)
      (case hx => exact $t)
      (case hz => walk_at "hz")))
/-! sums and rests -/
local macro_rules
  | `(tactic| walk_at "ar") => `(tactic| (try simp); (repeat (first | (rw [mul_r (by decide)]; simp) | (rw [mul_l (by decide)]; simp) | (rw [mod_ii (by decide)]; simp) | (rw [div_ii (by decide) (log_small (by decide) (by decide))]; simp) | (rw [pow_ii (by decide)]; simp) | (rw [mul_l (mod_small (by decide) (by decide))]; simp))))
local macro_rules
  | `(tactic| wp_walk using "lcf", $f, $t, $ts,*) => `(tactic| (
      rw [lc_yE (f := $f) ?hi ?hs ?hz ?hE ?hx]
      (case hi => wp_walk using "ev", $ts,*)
      (case hs => walk_at "src")
      (case hE => exact fun a ha => rfl)
      (case hx => exact $t)
      (case hz => walk_at "hz")))
namespace K56
theorem p_drawA {cells : List Int} {a : Nat} {b c e : Int} {m : Int} {cs : Hep} (hb : 0 ≤ b) : ∃ (a' : Nat) (b' c' : Int), 0 ≤ b' ∧ I__law_draw_1 [some (.ref 0), some (.dat (.int m)), none, none, none] (handC cells a b c e :: cs) = .nx [some (.ref 0), some (.dat (.int m)), none, none, none] (handC cells a' b' c' e :: cs) := by
  unfold I__law_draw_1
  by_cases h0 : b = 0
  · subst h0
    by_cases h1 : a < cells.length
    · have e1 : atI (cells.map PyData.int) (a : Int) = some (.int cells[a]) := by
        rw [atI_nat (by simpa using h1)]
        simp
      by_cases h2 : (1000000000000000000 : Int) ≤ cells[a]
      · refine ⟨a + 1, cells[a], ?_, by omega, ?_⟩
        rotate_left
        simp [h1, e1]
        walk_at "ar"
        simp [h2]
        rfl
      · refine ⟨a + 1, 0, ?_, by omega, ?_⟩
        rotate_left
        simp [h1, e1]
        walk_at "ar"
        simp [h2]
        rfl
    · exact ⟨a, 0, c, by omega, by simp [h1]⟩
  · exact ⟨a, b, c, hb, by simp [h0]⟩
theorem p_drawB0 {cells : List Int} {a c e : Int} {m : Int} {cs : Hep} : I__law_draw_2 [some (.ref 0), some (.dat (.int m)), none, none, none] (handC cells a 0 c e :: cs) = .nx [some (.ref 0), some (.dat (.int m)), none, none, none] (handC cells a 0 c e :: cs) := by
  unfold I__law_draw_2
  simp
theorem p_drawB1 {cells : List Int} {a b c e : Int} {m : Int} {cs : Hep} (hb : 0 < b) (hm : 0 < m) (hz : m ≤ 2 ^ 40) : I__law_draw_2 [some (.ref 0), some (.dat (.int m)), none, none, none] (handC cells a b c e :: cs) = .rt (.dat (.int (b % m))) (handC cells a (b / m) c e :: cs) := by
  unfold I__law_draw_2
  simp [hb]
  rw [mod_ii hm]
  simp
  rw [div_ii hm (log_small hm hz)]
  simp
/-- a draw below m -/
theorem draw {m : Int} (hm : 0 < m) (hz : m ≤ 2 ^ 40) : Dr Hd (m__law_draw [.ref 0, .dat (.int m)]) fun v => ∃ i : Int, v = .int i ∧ 0 ≤ i ∧ i < m := by
  rintro _ cs ⟨cells, a, b, c, e, rfl, hb⟩ hf
  obtain ⟨a', b', c', hb', eA⟩ := p_drawA (cells := cells) (a := a) (c := c) (e := e) (m := m) (cs := cs) hb
  by_cases h0 : b' = 0
  · subst h0
    suffices z : ∃ x c2, m__law_draw [.ref 0, .dat (.int m)] (handC cells a b c e :: cs) = leave (handC cells a b c e :: cs) (.dat (.int (x % m))) (c2 :: cs) ∧ Hd c2 by
      obtain ⟨x, c2, q, hc2⟩ := z
      exact ⟨_, c2, q.trans (leave_dr0 hc2 hf), hc2, _, rfl, Int.emod_nonneg _ (by omega), Int.emod_lt_of_pos _ hm⟩
    refine ⟨?_, handC cells a' 0 c' (e + 1), ?_, cells, a', 0, c', e + 1, rfl, by omega⟩
    rotate_left
    unfold m__law_draw mFun b__law_draw
    simp only [List.map_cons, List.map_nil, List.length_cons, List.length_nil, List.replicate, List.cons_append, List.nil_append, Nat.reduceAdd, Nat.reduceSub, x_seq]
    rw [eA, andThen_nx, x_seq, p_drawB0, andThen_nx]
    walk_at "ar"
    rw [mod_ii hm]
    simp
    rfl
  · have hb2 : 0 < b' := by omega
    have hd : Hd (handC cells a' (b' / m) c' e) := ⟨cells, a', b' / m, c', e, rfl, Int.ediv_nonneg hb' (by omega)⟩
    refine ⟨.int (b' % m), handC cells a' (b' / m) c' e, ?_, hd, _, rfl, Int.emod_nonneg _ (by omega), Int.emod_lt_of_pos _ hm⟩
    unfold m__law_draw mFun b__law_draw
    simp only [List.map_cons, List.map_nil, List.length_cons, List.length_nil, List.replicate, List.cons_append, List.nil_append, Nat.reduceAdd, Nat.reduceSub, x_seq]
    rw [eA, andThen_nx, x_seq, p_drawB1 hb2 hm hz, andThen_rt]
    exact leave_dr0 hd hf
theorem draw1 {m : Int} (hm : 0 < m) (hz : m ≤ 2 ^ 40) {c : Cell} {cs : Hep} (hc : Hd c) (hf : Flat cs) : ∃ (i : Nat) (c' : Cell), m__law_draw [.ref 0, .dat (.int m)] (c :: cs) = .ok (.dat (.int i)) (c' :: cs) ∧ Hd c' ∧ (i : Int) < m := by
  obtain ⟨v, c', e, h1, i, rfl, h2, h3⟩ := draw hm hz c cs hc hf
  obtain ⟨n, rfl⟩ := Int.eq_ofNat_of_zero_le h2
  exact ⟨n, c', e, h1, h3⟩
/-- one of things -/
theorem some_of {xs : List PyData} (hx : xs ≠ []) (hz : xs.length ≤ 2 ^ 24) {c : Cell} {cs : Hep} (hc : Hd c) (hf : Flat cs) : ∃ v c', m__law_some [.ref 0, .dat (.list xs)] (c :: cs) = .ok (.dat v) (c' :: cs) ∧ Hd c' ∧ v ∈ xs := by
  have hp : 0 < xs.length := List.length_pos_iff.mpr hx
  obtain ⟨v, c', e, h1, i, rfl, h2, h3⟩ := draw (m := xs.length) (by omega) (by omega) c cs hc hf
  obtain ⟨n, rfl⟩ := Int.eq_ofNat_of_zero_le h2
  have hn : n < xs.length := by omega
  refine ⟨xs[n], c', ?_, h1, List.getElem_mem hn⟩
  unfold m__law_some mFun b__law_some
  simp [e]
  rw [atI_nat hn]
  simp
  exact leave_dr0 h1 hf
theorem some_t {xs : List PyData} (hx : xs ≠ []) (hz : xs.length ≤ 2 ^ 24) {c : Cell} {cs : Hep} (hc : Hd c) (hf : Flat cs) : ∃ v c', m__law_some [.ref 0, .dat (.tuple xs)] (c :: cs) = .ok (.dat v) (c' :: cs) ∧ Hd c' ∧ v ∈ xs := by
  have hp : 0 < xs.length := List.length_pos_iff.mpr hx
  obtain ⟨v, c', e, h1, i, rfl, h2, h3⟩ := draw (m := xs.length) (by omega) (by omega) c cs hc hf
  obtain ⟨n, rfl⟩ := Int.eq_ofNat_of_zero_le h2
  have hn : n < xs.length := by omega
  refine ⟨xs[n], c', ?_, h1, List.getElem_mem hn⟩
  unfold m__law_some mFun b__law_some
  simp [e]
  rw [atI_nat hn]
  simp
  exact leave_dr0 h1 hf
/-- the hand of a script -/
theorem hand_of {ns : List Int} {v : Val} (hv : IsScr ns v) (hl : ns.length ≤ 63) : ∃ c, m__law_hand [v] [] = .ok (.ref 0) [c] ∧ Hd c := by
  have e0 : kSl v none (some 63) [] = .ok (.dat (.list (Vi.cut (ns.map PyData.int) none (some 63)))) [] := by
    rcases hv with rfl | rfl <;> rfl
  have e1 : Vi.cut (ns.map PyData.int) none (some 63) = ns.map PyData.int := by
    rw [show (63 : Int) = ((63 : Nat) : Int) from rfl, cut_take, List.take_of_length_le (by simpa using hl)]
  rw [e1] at e0
  suffices z : ∃ (cells : List Int) (x : Int), m__law_hand [v] [] = leave [] (.ref 0) [handC cells (0 : Nat) 0 x 0] by
    obtain ⟨cells, x, q⟩ := z
    refine ⟨handC cells (0 : Nat) 0 x 0, q.trans ?_, cells, 0, 0, x, 0, rfl, by omega⟩
    unfold leave
    rw [if_neg (by simp [Val.closed])]
  refine ⟨ns.map fun i => if i < 0 then -i else i, ?_, ?_⟩
  rotate_left
  unfold m__law_hand mFun b__law_hand
  simp
  rw [lc_ofy (inj := PyData.int) (l := ns) (fun i => .int (if i < 0 then -i else i)) (src_list_of PyData.int ns) (by have : sizeLine = 2 ^ 24 := rfl; omega) (by simp [e0]) (fun i _ => ⟨_, rfl, fun g => by walk_at "ar"⟩)]
  walk_at "ar"
  simp [handC, Function.comp_def]
  rfl
end K56
end K56q_

section K56r_
set_option linter.all false
set_option maxRecDepth 100000
open PySem PySem.Spec PyProof.Rows L2 Vi
/-! the ways "src", "lc", "lcp": a comprehension is run, its function found -/
local macro_rules
  | `(tactic| wp_walk using "st", $ts,*) => `(tactic| simp only [Vi.abs_i, Vi.add_ii, Vi.all_map, Vi.andThen_bad, Vi.andThen_bk, Vi.andThen_ct, Vi.andThen_er, Vi.andThen_nx, Vi.andThen_rt, Vi.bind_bad, Vi.bind_er, Vi.bind_ok, Vi.eq_bb, Vi.eq_ii, Vi.eq_ss, Vi.ge_ii, Vi.gt_ii, Vi.iBool_dict, Vi.iInt_dict, Vi.iLst_dict, Vi.iStr_dict, Vi.iTup_dict, Vi.int_i, Vi.isBool_bool, Vi.isBool_int, Vi.isBool_list, Vi.isBool_none, Vi.isBool_str, Vi.isBool_tuple, Vi.isInt_bool, Vi.isInt_int, Vi.isInt_list, Vi.isInt_none, Vi.isInt_str, Vi.isInt_tuple, Vi.isLst_bool, Vi.isLst_int, Vi.isLst_list, Vi.isLst_none, Vi.isLst_str, Vi.isLst_tuple, Vi.isStr_bool, Vi.isStr_int, Vi.isStr_list, Vi.isStr_none, Vi.isStr_str, Vi.isStr_tuple, Vi.isTup_bool, Vi.isTup_int, Vi.isTup_list, Vi.isTup_none, Vi.isTup_str, Vi.isTup_tuple, Vi.is_none, Vi.isi_bool, Vi.isi_int, Vi.isi_list, Vi.isi_str, Vi.isi_tl, Vi.isi_tuple, Vi.it_dat_list, Vi.it_dat_str, Vi.it_dat_tup, Vi.kCel_0, Vi.kCel_1, Vi.kCel_2, Vi.kCel_3, Vi.kCel_4, Vi.kCel_5, Vi.kCel_6, Vi.kCel_7, Vi.kCel_8, Vi.kCel_9, Vi.kCel_10, Vi.kCel_11, Vi.kCel_12, Vi.kCel_13, Vi.kCel_14, Vi.kCel_15, Vi.kCel_16, Vi.kLst_17, Vi.kLst_18, Vi.kLst_19, Vi.kLst_20, Vi.kLst_21, Vi.kLst_22, Vi.kLst_23, Vi.kLst_24, Vi.kTup_9, Vi.kTup_10, Vi.kTup_11, Vi.kTup_12, Vi.kTup_13, Vi.kEnum_l, Vi.kEnum_t, Vi.kLst_0, Vi.kLst_1, Vi.kLst_10, Vi.kLst_11, Vi.kLst_12, Vi.kLst_13, Vi.kLst_14, Vi.kLst_15, Vi.kLst_16, Vi.kLst_2, Vi.kLst_3, Vi.kLst_4, Vi.kLst_5, Vi.kLst_6, Vi.kLst_7, Vi.kLst_8, Vi.kLst_9, Vi.kTup_0, Vi.kTup_1, Vi.kTup_2, Vi.kTup_3, Vi.kTup_4, Vi.kTup_5, Vi.kTup_6, Vi.kTup_7, Vi.kTup_8, Vi.kZip_ll, Vi.kZip_lt, Vi.kZip_tl, Vi.kZip_tt, Vi.le_ii, Vi.leave_dat, Vi.leave_self, Vi.len_l, Vi.len_t, Vi.list_l, Vi.list_t, Vi.lt_ii, Vi.max_ii, Vi.min_ii, Vi.ne_bb, Vi.ne_ss, Vi.ne_ii, Vi.sl_l, Vi.sl_t, Vi.sub_ii, Vi.trim_self, Vi.tuple_l, Vi.tuple_t, Vi.turn_bad, Vi.turn_bk, Vi.turn_ct, Vi.turn_er, Vi.turn_nx, Vi.turn_rt, Vi.tyC_e, Vi.tyC_l, Vi.tyC_s, Vi.tyC_t, Vi.wipe_0, Vi.wipe_bad, Vi.wipe_bk, Vi.wipe_c, Vi.wipe_ct, Vi.wipe_er, Vi.wipe_nx, Vi.wipe_rt, Vi.x_C, Vi.x_and, Vi.x_app, Vi.x_asg, Vi.x_bin, Vi.x_brk, Vi.x_call, Vi.x_cel, Vi.x_chain, Vi.x_cnt, Vi.x_cons, Vi.x_dats0, Vi.x_datsS, Vi.x_dead, Vi.x_drop, Vi.x_frz, Vi.x_if, Vi.x_ifS, Vi.x_isE, Vi.x_isi, Vi.x_it, Vi.x_ita, Vi.x_kAnd, Vi.x_kChain, Vi.x_kNeg, Vi.x_kNot, Vi.x_kOr, Vi.x_kPar, Vi.x_kTest, Vi.x_lst, Vi.x_meth, Vi.x_neg, Vi.x_next, Vi.x_nil, Vi.x_noPart, Vi.x_not, Vi.x_ok, Vi.x_one, Vi.x_or, Vi.x_par, Vi.x_partG, Vi.kPart_i, Vi.tkM, Vi.dpM, Vi.rvM, Vi.cut_tn, Vi.cut_dn, Vi.cut_tn1, Vi.cut_dn1, Vi.cut_mapS, Vi.cut_d1, Vi.cut_t1, Vi.rev_t, Vi.rev_l, Vi.x_par, Vi.x_kPar, Vi.x_parN, Vi.kParN_0, Vi.kParN_c, List.length_map, Vi.toDat_e, Vi.tup_r, Vi.frz_r, Vi.it_r, List.mem_singleton, List.mem_cons, true_or, or_true, Vi.x_raise, Vi.x_ret, Vi.x_retN, Vi.x_rev, Vi.x_seq, Vi.x_set, Vi.x_sl, Vi.x_store, Vi.x_tAnd, Vi.x_tNot, Vi.x_tOr, Vi.x_test, Vi.x_tup, Vi.x_two, Vi.x_var0, Vi.x_varS, Vi.x_yes, Vi.st_ok', Vi.Out.st_er, Vi.Out.st_bad, Vi.kAsg, Vi.asgT, Vi.asgTs, List.set_cons_succ, List.set_cons_zero, List.map_cons, List.map_nil, List.length_cons, List.length_nil, List.replicate, List.cons_append, List.nil_append, Nat.reduceAdd, Nat.reduceSub, Int.reduceAdd, Int.reduceSub, Int.reduceMul, Int.reduceNeg, if_true, if_false, reduceIte, Bool.not_true, Bool.not_false, Bool.false_eq_true, Bool.true_and, Bool.false_and, Bool.and_true, Bool.and_false, Bool.true_or, Bool.false_or, Bool.or_true, Bool.or_false, decide_true, decide_false, beq_self_eq_true, $[$ts:term],*])
local macro_rules
  | `(tactic| walk_at "st") => `(tactic| wp_walk using "st", id_eq)
local macro_rules
  | `(tactic| walk_at "src") => `(tactic| first | exact src_tup_of _ _ | exact src_list_of _ _ | exact src_rn _ | exact src_en_l _ _ | exact src_en_t _ _ | exact src_z_ll _ _ _ _ | exact src_z_lt _ _ _ _ | exact src_z_tl _ _ _ _ | exact src_z_tt _ _ _ _ | exact src_ri _ _ | exact src_id_t _ | exact src_id_l _)
local macro_rules
  | `(tactic| walk_at "hz") => `(tactic| first | (simp only [size_is, List.length_range, List.length_map, List.length_zipIdx, List.length_zip]; omega) | (simp [size_is]; omega) | (simp [size_is]; done) | exact Nat.le_trans (List.length_filter_le _ _) (by simp [size_is]; omega))
local macro_rules
  | `(tactic| wp_walk using "ev", $ts,*) => `(tactic| first | (simp [$[$ts:term],*, -List.map_tail, -List.drop_one, -List.map_drop, -List.map_take, -List.map_reverse, -List.all_eq_true, -List.any_eq_true, -List.getD_eq_getElem?_getD]; done) | (simp [$[$ts:term],*, -List.map_tail, -List.drop_one, -List.map_drop, -List.map_take, -List.map_reverse, -List.all_eq_true, -List.any_eq_true, -List.getD_eq_getElem?_getD]; exact rfl) | (simp [$[$ts:term],*, -List.map_tail, -List.drop_one, -List.map_drop, -List.map_take, -List.map_reverse, -List.all_eq_true, -List.any_eq_true, -List.getD_eq_getElem?_getD]; exact kRng1_n (by omega)) | (simp [$[$ts:term],*, -List.map_tail, -List.drop_one, -List.map_drop, -List.map_take, -List.map_reverse, -List.all_eq_true, -List.any_eq_true, -List.getD_eq_getElem?_getD]; exact kRng1_i (by omega) (by omega)) | (simp [$[$ts:term],*, -List.map_tail, -List.drop_one, -List.map_drop, -List.map_take, -List.map_reverse, -List.all_eq_true, -List.any_eq_true, -List.getD_eq_getElem?_getD]; exact kRng2_i (by omega) (by omega) (by omega) (by omega)))
local macro_rules
  | `(tactic| wp_walk using "lc", $ts,*) => `(tactic| (
      rw [lc_y ?hi ?hs ?hz ?hx]
      (case hi => wp_walk using "ev", $ts,*)
      (case hs => walk_at "src")
      (case hz => walk_at "hz")
      (case hx => (intro a ha; refine ⟨_, rfl, fun g => ?_⟩; wp_walk using "ev", $ts,*))))
local macro_rules
  | `(tactic| wp_walk using "lcp", $ts,*) => `(tactic| (
      rw [lc_p ?hi ?hs ?hz ?ht ?hx]
      (case hi => wp_walk using "ev", $ts,*)
      (case hs => walk_at "src")
      (case hz => walk_at "hz")
      (case ht => (intro a ha; refine ⟨_, rfl, fun g => ?_⟩; wp_walk using "ev", $ts,*))
      (case hx => (intro a ha hp; refine ⟨_, rfl, fun g => ?_⟩; wp_walk using "ev", $ts,*))))
local macro_rules
  | `(tactic| wp_walk using "s", $ts,*) => `(tactic| simp [$[$ts:term],*, -List.map_tail, -List.drop_one, -List.map_drop, -List.map_take, -List.map_reverse, -List.all_eq_true, -List.any_eq_true, -List.getD_eq_getElem?_getD])
local macro_rules
  | `(tactic| walk_at "s") => `(tactic| simp [-List.map_tail, -List.drop_one, -List.map_drop, -List.map_take, -List.map_reverse, -List.all_eq_true, -List.any_eq_true, -List.getD_eq_getElem?_getD])
local macro_rules
  | `(tactic| walk_at "lc") => `(tactic| wp_walk using "lc", id_eq)
local macro_rules
  | `(tactic| walk_at "lcp") => `(tactic| wp_walk using "lcp", id_eq)
local macro_rules
  | `(tactic| wp_walk using "lcx", $t, $ts,*) => `(tactic| (
      rw [lc_yE ?hi ?hs ?hz ?hE ?hx]
      (case hi => wp_walk using "ev", $ts,*)
      (case hs => walk_at "src")
      (case hE => exact fun a ha => rfl)
      (case hx => exact $t)
      (case hz => walk_at "hz")))
local macro_rules
  | `(tactic| wp_walk using "lcpx", $u, $t, $ts,*) => `(tactic| (
      rw [lc_pE ?hi ?hs ?hz ?hE ?ht ?hx]
      (case hi => wp_walk using "ev", $ts,*)
      (case hs => walk_at "src")
      (case hE => exact fun a ha => rfl)
      (case ht => exact $u)
      (case hx => exact $t)
      (case hz => walk_at "hz")))
local macro_rules
  | `(tactic| wp_walk using "lc2", $t, $ts,*) => `(tactic| (
      rw [lc2_yE ?hi ?hs ?hE ?hi1 ?hs1 ?hE2 ?hz ?hx]
      (case hi => wp_walk using "ev", $ts,*)
      (case hs => walk_at "src")
      (case hE => exact fun a ha => rfl)
      (case hi1 => (intro a ha g; wp_walk using "ev", $ts,*))
      (case hs1 => (intro a ha; walk_at "src"))
      (case hE2 => exact fun a ha b hb => rfl)
      (case hx => exact $t)))
local macro_rules
  | `(tactic| wp_walk using "lc2p", $u, $t, $ts,*) => `(tactic| (
      rw [lc2_pE ?hi ?hs ?hE ?hi1 ?hs1 ?hE2 ?hz ?ht ?hx]
      (case hi => wp_walk using "ev", $ts,*)
      (case hs => walk_at "src")
      (case hE => exact fun a ha => rfl)
      (case hi1 => (intro a ha g; wp_walk using "ev", $ts,*))
      (case hs1 => (intro a ha; walk_at "src"))
      (case hE2 => exact fun a ha b hb => rfl)
      (case ht => exact $u)
      (case hx => exact $t)))
local macro_rules
  | `(tactic| wp_walk using "lci", $i, $t) => `(tactic| (
      rw [lc_yE ?hi ?hs ?hz ?hE ?hx]
      (case hi => exact $i)
      (case hs => walk_at "src")
      (case hE => exact fun a ha => rfl)
      (case hx => exact $t)
      (case hz => walk_at "hz")))
local macro_rules
  | `(tactic| wp_walk using "lcpi", $i, $u, $t) => `(tactic| (
      rw [lc_pE ?hi ?hs ?hz ?hE ?ht ?hx]
      (case hi => exact $i)
      (case hs => walk_at "src")
      (case hE => exact fun a ha => rfl)
      (case ht => exact $u)
      (case hx => exact $t)
      (case hz => walk_at "hz")))
/-! sums and rests -/
local macro_rules
  | `(tactic| walk_at "ar") => `(tactic| (try simp); (repeat (first | (rw [mul_r (by decide)]; simp) | (rw [mul_l (by decide)]; simp) | (rw [mod_ii (by decide)]; simp) | (rw [div_ii (by decide) (log_small (by decide) (by decide))]; simp) | (rw [pow_ii (by decide)]; simp) | (rw [mul_l (mod_small (by decide) (by decide))]; simp))))
local macro_rules
  | `(tactic| wp_walk using "lcf", $f, $t, $ts,*) => `(tactic| (
      rw [lc_yE (f := $f) ?hi ?hs ?hz ?hE ?hx]
      (case hi => wp_walk using "ev", $ts,*)
      (case hs => walk_at "src")
      (case hE => exact fun a ha => rfl)
      (case hx => exact $t)
      (case hz => walk_at "hz")))
namespace K56
theorem is_seq (rec : FL) (xs : List PyData) (mk : List PyData → PyData) (h : Hep) (hz : xs.length ≤ 1000) (ha : ∀ d ∈ xs, ∀ g : Hep, rec [.dat d, .dat d] g = .ok (.dat (.bool true)) g) (hix : ∀ (i : Int) (g : Hep), dIx (.dat (mk xs)) (.dat (.int i)) g = match atI xs i with | some r => .ok (.dat r) g | none => .bad) (hlen : ∀ g : Hep, fLen [.dat (mk xs)] g = .ok (.dat (.int xs.length)) g) :
    mLc .data (.nm 2) (mIta kRng1 (mCons (mCall fLen (mCons (mVar 1) (mNil))) (mNil))) (mYes) (mApp 2 rec (mCons (mBin dIx (mVar 0) (mVar 2)) (mCons (mBin dIx (mVar 1) (mVar 2)) (mNil)))) [2] [some (.dat (mk xs)), some (.dat (mk xs)), none] h = .ok (.dat (.list ((List.range xs.length).map fun _ => .bool true))) h := by
  rw [lc_y (inj := fun (i : Nat) => .int (i : Nat)) (l := List.range xs.length) (f := fun _ => .bool true) (by wp_walk using "ev", hlen) (src_rn _) (by walk_at "hz") (fun i hi => ⟨_, rfl, fun g => by
    have hi' : i < xs.length := List.mem_range.mp hi
    have q := ha xs[i] (List.getElem_mem hi') g
    wp_walk using "st", hix, atI_nat hi', q⟩)]
theorem is_turn (rec : FL) (d : PyData) (k : Nat) (hd : okd (k + 1) d = true) (ha : ∀ d, okd k d = true → ∀ g : Hep, rec [.dat d, .dat d] g = .ok (.dat (.bool true)) g) (h : Hep) : mFun 3 (b__law_is rec) [.dat d, .dat d] h = .ok (.dat (.bool true)) h := by
  unfold mFun b__law_is
  cases d with
  | tuple xs =>
    simp only [okd, Bool.and_eq_true, decide_eq_true_eq] at hd
    have q := is_seq rec xs .tuple h hd.1 (fun d hm => ha d (List.all_eq_true.mp hd.2 d hm)) (fun _ _ => ix_t) (fun _ => len_t)
    simp
    rw [q]
    simp [all_true]
  | list xs =>
    simp only [okd, Bool.and_eq_true, decide_eq_true_eq] at hd
    have q := is_seq rec xs .list h hd.1 (fun d hm => ha d (List.all_eq_true.mp hd.2 d hm)) (fun _ _ => ix_l) (fun _ => len_l)
    simp
    rw [q]
    simp [all_true]
  | dict kvs => cases hd
  | none => simp [notNone]
  | bool b => simp [notNone]
  | int i => simp [notNone]
  | str x => simp [notNone]
theorem is_same : ∀ (k : Nat) (d : PyData), okd k d = true → ∀ h : Hep, m__law_is k [.dat d, .dat d] h = .ok (.dat (.bool true)) h := by
  intro k
  induction k with
  | zero => intro d hd; cases hd
  | succ k ih => exact fun d hd h => is_turn (m__law_is k) d k hd ih h
def Deep (d : PyData) : Prop := d = .str "?" ∨ (∃ w, d = .tuple [.str "?", w] ∧ shortB w = true) ∨ ∃ w, d = .list [w]
theorem Deep.short {d : PyData} (h : Deep d) : shortB d = true := by
  rcases h with rfl | ⟨w, rfl, _⟩ | ⟨w, rfl⟩ <;> rfl
theorem deep {c : Cell} {cs : Hep} (hc : Hd c) (hf : Flat cs) : ∃ v c', m__law_deep [.ref 0] (c :: cs) = .ok (.dat v) (c' :: cs) ∧ Hd c' ∧ Deep v := by
  obtain ⟨n, c1, e1, h1, hn⟩ := draw1 (m := 30) (by decide) (by decide) hc hf
  unfold m__law_deep mFun b__law_deep
  walk_at "st"
  rw [mFor_is (h1 := c1 :: cs) (s := .rng 0 1 n) (xs := (List.range n).map fun (i : Nat) => .int (i : Nat)) (by wp_walk using "ev", e1) (src_rn n)]
  obtain ⟨e2, h2, q, c3, d3, e3, e4, hc3, hd3⟩ := forL_inv (tg := .nm 2) (b := L__law_deep_1)
    (fun _ env h => ∃ c d, env = [some (.ref 0), some (.dat d), none] ∧ h = c :: cs ∧ Hd c ∧ Deep d) (by
      rintro d ds env h ⟨c, d', rfl, rfl, hc, hd⟩
      refine ⟨[some (.ref 0), some (.dat d'), some (.dat d)], by simp [asgT], ?_⟩
      obtain ⟨i, c', e, hc', _⟩ := draw1 (m := 2) (by decide) (by decide) hc hf
      unfold L__law_deep_1
      by_cases c0 : (i : Int) = 0
      · refine ⟨[some (.ref 0), some (.dat (.tuple [.str "?", d'])), none], c' :: cs, .inl ?_, c', _, rfl, rfl, hc', .inr (.inl ⟨_, rfl, hd.short⟩)⟩
        simp [e, c0]
      · refine ⟨[some (.ref 0), some (.dat (.list [d'])), none], c' :: cs, .inl ?_, c', _, rfl, rfl, hc', .inr (.inr ⟨_, rfl⟩)⟩
        have c2 : ¬ i = 0 := by omega
        simp [e, c2]) (xs := (List.range n).map fun (i : Nat) => .int (i : Nat)) (env := [some (.ref 0), some (.dat (.str "?")), none]) (h := c1 :: cs) ⟨c1, .str "?", rfl, rfl, h1, .inl rfl⟩
  subst e3
  subst e4
  refine ⟨d3, c3, ?_, hc3, hd3⟩
  rw [q]
  walk_at "st"
  exact leave_dr0 hc3 hf
/-! ### words of errors -/
theorem p_word {th : Hep → Out Val} {h : Hep} {x : Str} {fl : Bool} (e : th h = .er ⟨x, none⟩ h) (hx : x = if fl then "NoNumber" else "NoTimes") : m__law_word th [.thk] h = .ok (.dat (.str (if fl then "number" else "times"))) h := by
  unfold m__law_word mFun b__law_word
  have e1 : mDrop (mThk th) [some .thk, some (.dat (.str "told")), none, none] h = .er ⟨x, none⟩ [some .thk, some (.dat (.str "told")), none, none] h := by
    unfold mDrop mThk
    simp [e, Out.plain, Out.st]
  walk_at "st"
  unfold mTryAs
  rw [e1]
  subst hx
  cases fl
  · have k1 : kn "NoTimes" "SchoolError" = some true := by decide
    have k2 : kn "NoTimes" "NoNumber" = some false := by decide
    have k3 : kn "NoTimes" "NoTimes" = some true := by decide
    have k4 : kn "NoTimes" "ValueError" = some true := by decide
    have q1 := fun g => count_b (l := [false, true]) (b := true) (h := g)
    have q2 := fun g => index_b (l := [false, true]) (b := true) (j := 1) (h := g) rfl
    simp only [List.map_cons, List.map_nil] at q1 q2
    have a0 : atI [PyData.str "number", .str "times"] 1 = some (.str "times") := rfl
    simp [k1, dropX, dropV, isE_is k2, isE_is k3, isE_is k4, q1, q2, a0, SOut.unsuite]
  · have k1 : kn "NoNumber" "SchoolError" = some true := by decide
    have k2 : kn "NoNumber" "NoNumber" = some true := by decide
    have k3 : kn "NoNumber" "NoTimes" = some false := by decide
    have k4 : kn "NoNumber" "ValueError" = some true := by decide
    have q1 := fun g => count_b (l := [true, false]) (b := true) (h := g)
    have q2 := fun g => index_b (l := [true, false]) (b := true) (j := 0) (h := g) rfl
    simp only [List.map_cons, List.map_nil] at q1 q2
    have a0 : atI [PyData.str "number", .str "times"] 0 = some (.str "number") := rfl
    simp [k1, dropX, dropV, isE_is k2, isE_is k3, isE_is k4, q1, q2, a0, SOut.unsuite]
noncomputable def lamK (th : Hep → Out Val) (h : Hep) : Out Val := match m__law_word th [.thk] h with
  | .ok v h1 => if v.plainV = true then .ok v h1 else .bad
  | _ => .bad
theorem x_lam {mb : ME} {env : Vi.Env} {h : Hep} : mLam m__law_word mb env h = lamK (fun h' => mb env h') h := (rfl)
theorem lam_r {h : Hep} : lamK (fun h' => .er ⟨"NoTimes", none⟩ h') h = .ok (.dat (.str "times")) h := by
  unfold lamK
  rw [p_word (th := fun h' => .er ⟨"NoTimes", none⟩ h') (fl := false) (x := "NoTimes") rfl rfl]
  rfl
theorem lam_n {h : Hep} : lamK (fun h' => .er ⟨"NoNumber", none⟩ h') h = .ok (.dat (.str "number")) h := by
  unfold lamK
  rw [p_word (th := fun h' => .er ⟨"NoNumber", none⟩ h') (fl := true) (x := "NoNumber") rfl rfl]
  rfl
theorem lam_w {mb : ME} {env : Vi.Env} {h : Hep} {x : Str} {fl : Bool} (e : mb env h = .er ⟨x, none⟩ h) (hx : x = if fl then "NoNumber" else "NoTimes") : mLam m__law_word mb env h = .ok (.dat (.str (if fl then "number" else "times"))) h := by
  unfold mLam
  rw [p_word e hx]
  rfl
end K56
end K56r_

section K56s_
set_option linter.all false
set_option maxRecDepth 100000
open PySem PySem.Spec PyProof.Rows L2 Vi
/-! the ways "src", "lc", "lcp": a comprehension is run, its function found -/
local macro_rules
  | `(tactic| wp_walk using "st", $ts,*) => `(tactic| simp only [Vi.abs_i, Vi.add_ii, Vi.all_map, Vi.andThen_bad, Vi.andThen_bk, Vi.andThen_ct, Vi.andThen_er, Vi.andThen_nx, Vi.andThen_rt, Vi.bind_bad, Vi.bind_er, Vi.bind_ok, Vi.eq_bb, Vi.eq_ii, Vi.eq_ss, Vi.ge_ii, Vi.gt_ii, Vi.iBool_dict, Vi.iInt_dict, Vi.iLst_dict, Vi.iStr_dict, Vi.iTup_dict, Vi.int_i, Vi.isBool_bool, Vi.isBool_int, Vi.isBool_list, Vi.isBool_none, Vi.isBool_str, Vi.isBool_tuple, Vi.isInt_bool, Vi.isInt_int, Vi.isInt_list, Vi.isInt_none, Vi.isInt_str, Vi.isInt_tuple, Vi.isLst_bool, Vi.isLst_int, Vi.isLst_list, Vi.isLst_none, Vi.isLst_str, Vi.isLst_tuple, Vi.isStr_bool, Vi.isStr_int, Vi.isStr_list, Vi.isStr_none, Vi.isStr_str, Vi.isStr_tuple, Vi.isTup_bool, Vi.isTup_int, Vi.isTup_list, Vi.isTup_none, Vi.isTup_str, Vi.isTup_tuple, Vi.is_none, Vi.isi_bool, Vi.isi_int, Vi.isi_list, Vi.isi_str, Vi.isi_tl, Vi.isi_tuple, Vi.it_dat_list, Vi.it_dat_str, Vi.it_dat_tup, Vi.kCel_0, Vi.kCel_1, Vi.kCel_2, Vi.kCel_3, Vi.kCel_4, Vi.kCel_5, Vi.kCel_6, Vi.kCel_7, Vi.kCel_8, Vi.kCel_9, Vi.kCel_10, Vi.kCel_11, Vi.kCel_12, Vi.kCel_13, Vi.kCel_14, Vi.kCel_15, Vi.kCel_16, Vi.kLst_17, Vi.kLst_18, Vi.kLst_19, Vi.kLst_20, Vi.kLst_21, Vi.kLst_22, Vi.kLst_23, Vi.kLst_24, Vi.kTup_9, Vi.kTup_10, Vi.kTup_11, Vi.kTup_12, Vi.kTup_13, Vi.kEnum_l, Vi.kEnum_t, Vi.kLst_0, Vi.kLst_1, Vi.kLst_10, Vi.kLst_11, Vi.kLst_12, Vi.kLst_13, Vi.kLst_14, Vi.kLst_15, Vi.kLst_16, Vi.kLst_2, Vi.kLst_3, Vi.kLst_4, Vi.kLst_5, Vi.kLst_6, Vi.kLst_7, Vi.kLst_8, Vi.kLst_9, Vi.kTup_0, Vi.kTup_1, Vi.kTup_2, Vi.kTup_3, Vi.kTup_4, Vi.kTup_5, Vi.kTup_6, Vi.kTup_7, Vi.kTup_8, Vi.kZip_ll, Vi.kZip_lt, Vi.kZip_tl, Vi.kZip_tt, Vi.le_ii, Vi.leave_dat, Vi.leave_self, Vi.len_l, Vi.len_t, Vi.list_l, Vi.list_t, Vi.lt_ii, Vi.max_ii, Vi.min_ii, Vi.ne_bb, Vi.ne_ss, Vi.ne_ii, Vi.sl_l, Vi.sl_t, Vi.sub_ii, Vi.trim_self, Vi.tuple_l, Vi.tuple_t, Vi.turn_bad, Vi.turn_bk, Vi.turn_ct, Vi.turn_er, Vi.turn_nx, Vi.turn_rt, Vi.tyC_e, Vi.tyC_l, Vi.tyC_s, Vi.tyC_t, Vi.wipe_0, Vi.wipe_bad, Vi.wipe_bk, Vi.wipe_c, Vi.wipe_ct, Vi.wipe_er, Vi.wipe_nx, Vi.wipe_rt, Vi.x_C, Vi.x_and, Vi.x_app, Vi.x_asg, Vi.x_bin, Vi.x_brk, Vi.x_call, Vi.x_cel, Vi.x_chain, Vi.x_cnt, Vi.x_cons, Vi.x_dats0, Vi.x_datsS, Vi.x_dead, Vi.x_drop, Vi.x_frz, Vi.x_if, Vi.x_ifS, Vi.x_isE, Vi.x_isi, Vi.x_it, Vi.x_ita, Vi.x_kAnd, Vi.x_kChain, Vi.x_kNeg, Vi.x_kNot, Vi.x_kOr, Vi.x_kPar, Vi.x_kTest, Vi.x_lst, Vi.x_meth, Vi.x_neg, Vi.x_next, Vi.x_nil, Vi.x_noPart, Vi.x_not, Vi.x_ok, Vi.x_one, Vi.x_or, Vi.x_par, Vi.x_partG, Vi.kPart_i, Vi.tkM, Vi.dpM, Vi.rvM, Vi.cut_tn, Vi.cut_dn, Vi.cut_tn1, Vi.cut_dn1, Vi.cut_mapS, Vi.cut_d1, Vi.cut_t1, Vi.rev_t, Vi.rev_l, Vi.x_par, Vi.x_kPar, Vi.x_parN, Vi.kParN_0, Vi.kParN_c, List.length_map, Vi.toDat_e, Vi.tup_r, Vi.frz_r, Vi.it_r, List.mem_singleton, List.mem_cons, true_or, or_true, Vi.x_raise, Vi.x_ret, Vi.x_retN, Vi.x_rev, Vi.x_seq, Vi.x_set, Vi.x_sl, Vi.x_store, Vi.x_tAnd, Vi.x_tNot, Vi.x_tOr, Vi.x_test, Vi.x_tup, Vi.x_two, Vi.x_var0, Vi.x_varS, Vi.x_yes, Vi.st_ok', Vi.Out.st_er, Vi.Out.st_bad, Vi.kAsg, Vi.asgT, Vi.asgTs, List.set_cons_succ, List.set_cons_zero, List.map_cons, List.map_nil, List.length_cons, List.length_nil, List.replicate, List.cons_append, List.nil_append, Nat.reduceAdd, Nat.reduceSub, Int.reduceAdd, Int.reduceSub, Int.reduceMul, Int.reduceNeg, if_true, if_false, reduceIte, Bool.not_true, Bool.not_false, Bool.false_eq_true, Bool.true_and, Bool.false_and, Bool.and_true, Bool.and_false, Bool.true_or, Bool.false_or, Bool.or_true, Bool.or_false, decide_true, decide_false, beq_self_eq_true, $[$ts:term],*])
local macro_rules
  | `(tactic| walk_at "st") => `(tactic| wp_walk using "st", id_eq)
local macro_rules
  | `(tactic| walk_at "src") => `(tactic| first | exact src_tup_of _ _ | exact src_list_of _ _ | exact src_rn _ | exact src_en_l _ _ | exact src_en_t _ _ | exact src_z_ll _ _ _ _ | exact src_z_lt _ _ _ _ | exact src_z_tl _ _ _ _ | exact src_z_tt _ _ _ _ | exact src_ri _ _ | exact src_id_t _ | exact src_id_l _)
local macro_rules
  | `(tactic| walk_at "hz") => `(tactic| first | (simp only [size_is, List.length_range, List.length_map, List.length_zipIdx, List.length_zip]; omega) | (simp [size_is]; omega) | (simp [size_is]; done) | exact Nat.le_trans (List.length_filter_le _ _) (by simp [size_is]; omega))
local macro_rules
  | `(tactic| wp_walk using "ev", $ts,*) => `(tactic| first | (simp [$[$ts:term],*, -List.map_tail, -List.drop_one, -List.map_drop, -List.map_take, -List.map_reverse, -List.all_eq_true, -List.any_eq_true, -List.getD_eq_getElem?_getD]; done) | (simp [$[$ts:term],*, -List.map_tail, -List.drop_one, -List.map_drop, -List.map_take, -List.map_reverse, -List.all_eq_true, -List.any_eq_true, -List.getD_eq_getElem?_getD]; exact rfl) | (simp [$[$ts:term],*, -List.map_tail, -List.drop_one, -List.map_drop, -List.map_take, -List.map_reverse, -List.all_eq_true, -List.any_eq_true, -List.getD_eq_getElem?_getD]; exact kRng1_n (by omega)) | (simp [$[$ts:term],*, -List.map_tail, -List.drop_one, -List.map_drop, -List.map_take, -List.map_reverse, -List.all_eq_true, -List.any_eq_true, -List.getD_eq_getElem?_getD]; exact kRng1_i (by omega) (by omega)) | (simp [$[$ts:term],*, -List.map_tail, -List.drop_one, -List.map_drop, -List.map_take, -List.map_reverse, -List.all_eq_true, -List.any_eq_true, -List.getD_eq_getElem?_getD]; exact kRng2_i (by omega) (by omega) (by omega) (by omega)))
local macro_rules
  | `(tactic| wp_walk using "lc", $ts,*) => `(tactic| (
      rw [lc_y ?hi ?hs ?hz ?hx]
      (case hi => wp_walk using "ev", $ts,*)
      (case hs => walk_at "src")
      (case hz => walk_at "hz")
      (case hx => (intro a ha; refine ⟨_, rfl, fun g => ?_⟩; wp_walk using "ev", $ts,*))))
local macro_rules
  | `(tactic| wp_walk using "lcp", $ts,*) => `(tactic| (
      rw [lc_p ?hi ?hs ?hz ?ht ?hx]
      (case hi => wp_walk using "ev", $ts,*)
      (case hs => walk_at "src")
      (case hz => walk_at "hz")
      (case ht => (intro a ha; refine ⟨_, rfl, fun g => ?_⟩; wp_walk using "ev", $ts,*))
      (case hx => (intro a ha hp; refine ⟨_, rfl, fun g => ?_⟩; wp_walk using "ev", $ts,*))))
local macro_rules
  | `(tactic| wp_walk using "s", $ts,*) => `(tactic| simp [$[$ts:term],*, -List.map_tail, -List.drop_one, -List.map_drop, -List.map_take, -List.map_reverse, -List.all_eq_true, -List.any_eq_true, -List.getD_eq_getElem?_getD])
local macro_rules
  | `(tactic| walk_at "s") => `(tactic| simp [-List.map_tail, -List.drop_one, -List.map_drop, -List.map_take, -List.map_reverse, -List.all_eq_true, -List.any_eq_true, -List.getD_eq_getElem?_getD])
local macro_rules
  | `(tactic| walk_at "lc") => `(tactic| wp_walk using "lc", id_eq)
local macro_rules
  | `(tactic| walk_at "lcp") => `(tactic| wp_walk using "lcp", id_eq)
local macro_rules
  | `(tactic| wp_walk using "lcx", $t, $ts,*) => `(tactic| (
      rw [lc_yE ?hi ?hs ?hz ?hE ?hx]
      (case hi => wp_walk using "ev", $ts,*)
      (case hs => walk_at "src")
      (case hE => exact fun a ha => rfl)
      (case hx => exact $t)
      (case hz => walk_at "hz")))
local macro_rules
  | `(tactic| wp_walk using "lcpx", $u, $t, $ts,*) => `(tactic| (
      rw [lc_pE ?hi ?hs ?hz ?hE ?ht ?hx]
      (case hi => wp_walk using "ev", $ts,*)
      (case hs => walk_at "src")
      (case hE => exact fun a ha => rfl)
      (case ht => exact $u)
      (case hx => exact $t)
      (case hz => walk_at "hz")))
local macro_rules
  | `(tactic| wp_walk using "lc2", $t, $ts,*) => `(tactic| (
      rw [lc2_yE ?hi ?hs ?hE ?hi1 ?hs1 ?hE2 ?hz ?hx]
      (case hi => wp_walk using "ev", $ts,*)
      (case hs => walk_at "src")
      (case hE => exact fun a ha => rfl)
      (case hi1 => (intro a ha g; wp_walk using "ev", $ts,*))
      (case hs1 => (intro a ha; walk_at "src"))
      (case hE2 => exact fun a ha b hb => rfl)
      (case hx => exact $t)))
local macro_rules
  | `(tactic| wp_walk using "lc2p", $u, $t, $ts,*) => `(tactic| (
      rw [lc2_pE ?hi ?hs ?hE ?hi1 ?hs1 ?hE2 ?hz ?ht ?hx]
      (case hi => wp_walk using "ev", $ts,*)
      (case hs => walk_at "src")
      (case hE => exact fun a ha => rfl)
      (case hi1 => (intro a ha g; wp_walk using "ev", $ts,*))
      (case hs1 => (intro a ha; walk_at "src"))
      (case hE2 => exact fun a ha b hb => rfl)
      (case ht => exact $u)
      (case hx => exact $t)))
local macro_rules
  | `(tactic| wp_walk using "lci", $i, $t) => `(tactic| (
      rw [lc_yE ?hi ?hs ?hz ?hE ?hx]
      (case hi => exact $i)
      (case hs => walk_at "src")
      (case hE => exact fun a ha => rfl)
      (case hx => exact $t)
      (case hz => walk_at "hz")))
local macro_rules
  | `(tactic| wp_walk using "lcpi", $i, $u, $t) => `(tactic| (
      rw [lc_pE ?hi ?hs ?hz ?hE ?ht ?hx]
      (case hi => exact $i)
      (case hs => walk_at "src")
      (case hE => exact fun a ha => rfl)
      (case ht => exact $u)
      (case hx => exact $t)
      (case hz => walk_at "hz")))
/-! sums and rests -/
local macro_rules
  | `(tactic| walk_at "ar") => `(tactic| (try simp); (repeat (first | (rw [mul_r (by decide)]; simp) | (rw [mul_l (by decide)]; simp) | (rw [mod_ii (by decide)]; simp) | (rw [div_ii (by decide) (log_small (by decide) (by decide))]; simp) | (rw [pow_ii (by decide)]; simp) | (rw [mul_l (mod_small (by decide) (by decide))]; simp))))
local macro_rules
  | `(tactic| wp_walk using "lcf", $f, $t, $ts,*) => `(tactic| (
      rw [lc_yE (f := $f) ?hi ?hs ?hz ?hE ?hx]
      (case hi => wp_walk using "ev", $ts,*)
      (case hs => walk_at "src")
      (case hE => exact fun a ha => rfl)
      (case hx => exact $t)
      (case hz => walk_at "hz")))
namespace K56
open Bas
/-! # prices_by -/
/-- what it costs to take the leg v for the leg u -/
def wt (T : List (List Int)) (r : List Nat) (u v : Nat) : Int := tm T (r.idxOf u) v - tm T (r.idxOf u) u
def legsD (l : List Int) : List PyData := l.map .int
theorem legs_get {l : List Int} {i : Nat} (hi : i < l.length) : (legsD l)[i]? = some (.int (l.getD i 0)) := by
  unfold legsD
  rw [List.getElem?_map, List.getD_eq_getElem?_getD, List.getElem?_eq_getElem hi]
  rfl
theorem turn1 {T : List (List Int)} {n : Nat} (H : Ts T n) {i u v : Nat} (hi : i < n) (hu : u < n) (hv : v < n) (r : List Nat) (hr : r.idxOf u = i) (o1 o2 o3 o4 : Option Val) (h : Hep) (l : List Int) (hl : l.length = n) :
    L_prices_by_1 [some (.dat (tD T)), o1, o2, o3, o4, some (.ref h.length), some (.dat (.int i)), some (.dat (.int u)), some (.dat (.int v))] (h ++ [.lst (legsD l)]) =
      .nx [some (.dat (tD T)), o1, o2, o3, o4, some (.ref h.length), some (.dat (.int i)), some (.dat (.int u)), none] (h ++ [.lst (legsD (rel1 (wt T r) l (u, v)))]) := by
  unfold L_prices_by_1
  have a1 := ix_r (h := h) (legs_get (l := l) (i := v) (by omega))
  have a2 := ix_r (h := h) (legs_get (l := l) (i := u) (by omega))
  have t1 := (ix_T H hi hv).1
  have t2 := (ix_T H hi hv).2
  have t3 := (ix_T H hi hu).2
  have s1 := fun d => st_r (h := h) (xs := legsD l) (i := v) (d := d) (by simp [legsD]; omega)
  wp_walk using "st", a1, a2, t1, t2, t3, s1
  have e : l.getD u 0 + tm T i v - tm T i u = l.getD u 0 + wt T r u v := by
    unfold wt
    rw [hr]
    omega
  rw [e]
  congr 3
  unfold rel1 legsD
  rw [List.map_set]
theorem relE_lenN {w : Nat → Nat → Int} {n : Nat} {l : List Int} (hl : l.length = n) (es : List (Nat × Nat)) : (relE w es l).length = n := by rw [relE_len, hl]
theorem loop1 {T : List (List Int)} {n : Nat} (H : Ts T n) {i u : Nat} (hi : i < n) (hu : u < n) (r : List Nat) (hr : r.idxOf u = i) (o1 o2 o3 o4 : Option Val) (h : Hep) : ∀ (vs : List Nat) (l : List Int), (∀ v ∈ vs, v < n) → l.length = n →
    forL (.nm 8) L_prices_by_1 (vs.map fun v => .int (v : Nat)) [some (.dat (tD T)), o1, o2, o3, o4, some (.ref h.length), some (.dat (.int i)), some (.dat (.int u)), none] (h ++ [.lst (legsD l)]) =
      .nx [some (.dat (tD T)), o1, o2, o3, o4, some (.ref h.length), some (.dat (.int i)), some (.dat (.int u)), none] (h ++ [.lst (legsD (relE (wt T r) (vs.map fun v => (u, v)) l))])
  | [], l, _, _ => rfl
  | v :: vs, l, hv, hl => by
    have t := turn1 H hi hu (hv v (List.mem_cons_self ..)) r hr o1 o2 o3 o4 h l hl
    rw [List.map_cons, forL]
    simp only [asgT, List.set_cons_succ, List.set_cons_zero]
    rw [t, turn_nx, loop1 H hi hu r hr o1 o2 o3 o4 h vs _ (fun v' h' => hv v' (List.mem_cons_of_mem _ h')) (by rw [rel1_len]; exact hl)]
    rfl
theorem turn2 {T : List (List Int)} {n : Nat} (H : Ts T n) {i u : Nat} (hi : i < n) (hu : u < n) (r : List Nat) (hr : r.idxOf u = i) (o1 o2 o3 : Option Val) (h : Hep) (l : List Int) (hl : l.length = n) :
    L_prices_by_2 [some (.dat (tD T)), o1, o2, o3, some (.dat (.int n)), some (.ref h.length), some (.dat (.int i)), some (.dat (.int u)), none] (h ++ [.lst (legsD l)]) =
      .nx [some (.dat (tD T)), o1, o2, o3, some (.dat (.int n)), some (.ref h.length), none, none, none] (h ++ [.lst (legsD (relE (wt T r) ((List.range n).map fun v => (u, v)) l))]) := by
  unfold L_prices_by_2
  have := H.hi
  walk_at "st"
  rw [mFor_is (h1 := h ++ [.lst (legsD l)]) (s := .rng 0 1 n) (by wp_walk using "ev", kRng1_n) (src_rn n), loop1 H hi hu r hr o1 o2 o3 _ h (List.range n) l (fun v hv => List.mem_range.mp hv) hl]
  walk_at "st"
theorem loop2 {T : List (List Int)} {n : Nat} (H : Ts T n) (r : List Nat) (o1 o2 o3 : Option Val) (h : Hep) : ∀ (ps : List (Nat × Nat)) (l : List Int), (∀ p ∈ ps, p.2 < n ∧ p.1 < n ∧ r.idxOf p.1 = p.2) → l.length = n →
    forL (.tup [.nm 6, .nm 7]) L_prices_by_2 (ps.map fun p => .tuple [.int (p.2 : Nat), .int (p.1 : Nat)]) [some (.dat (tD T)), o1, o2, o3, some (.dat (.int n)), some (.ref h.length), none, none, none] (h ++ [.lst (legsD l)]) =
      .nx [some (.dat (tD T)), o1, o2, o3, some (.dat (.int n)), some (.ref h.length), none, none, none] (h ++ [.lst (legsD (relE (wt T r) (edges n (ps.map fun p => p.1)) l))])
  | [], l, _, _ => rfl
  | p :: ps, l, hv, hl => by
    obtain ⟨h1, h2, h3⟩ := hv p (List.mem_cons_self ..)
    have t := turn2 H h1 h2 r h3 o1 o2 o3 h l hl
    rw [List.map_cons, forL]
    simp only [asgT, asgTs, List.set_cons_succ, List.set_cons_zero]
    rw [t, turn_nx, loop2 H r o1 o2 o3 h ps _ (fun v' h' => hv v' (List.mem_cons_of_mem _ h')) (relE_lenN hl _)]
    unfold edges relE
    rw [List.map_cons, List.flatMap_cons, List.foldl_append]
theorem src_enNt (l : List Nat) : SrcIs (.enum (.dat (rowD l)) 0) (l.zipIdx.map fun p => .tuple [.int (p.2 : Nat), .int (p.1 : Nat)]) := src_en_t (fun i : Nat => .int (i : Nat)) l
theorem idx_ok {n : Nat} {r : List Nat} (R : Rel n r) : ∀ p ∈ r.zipIdx, p.2 < n ∧ p.1 < n ∧ r.idxOf p.1 = p.2 := fun p hp => by
  obtain ⟨h1, h2, h3⟩ := List.mem_zipIdx hp
  have := R.len
  refine ⟨by omega, ?_, ?_⟩
  · rw [h3]; exact R.lt _ (List.getElem_mem _)
  · rw [h3]
    simp only [Nat.sub_zero]
    exact R.nd.idxOf_getElem p.2 (by omega)
theorem turn3 {T : List (List Int)} {n : Nat} (H : Ts T n) {r : List Nat} (R : Rel n r) (d : PyData) (o3 : Option Val) (h : Hep) (l : List Int) (hl : l.length = n) :
    L_prices_by_3 [some (.dat (tD T)), some (.dat (rowD r)), some (.dat d), o3, some (.dat (.int n)), some (.ref h.length), none, none, none] (h ++ [.lst (legsD l)]) =
      .nx [some (.dat (tD T)), some (.dat (rowD r)), none, o3, some (.dat (.int n)), some (.ref h.length), none, none, none] (h ++ [.lst (legsD (relE (wt T r) (edges n r) l))]) := by
  unfold L_prices_by_3
  walk_at "st"
  rw [mFor_is (h1 := h ++ [.lst (legsD l)]) (s := .enum (.dat (rowD r)) 0) (by wp_walk using "ev", rowD) (src_enNt r), loop2 H r _ _ _ h r.zipIdx l (idx_ok R) hl]
  have : r.zipIdx.map (fun p => p.1) = r := by simp
  rw [this]
  walk_at "st"
theorem loop3 {T : List (List Int)} {n : Nat} (H : Ts T n) {r : List Nat} (R : Rel n r) (o3 : Option Val) (h : Hep) : ∀ (ds : List PyData) (l : List Int), l.length = n →
    forL (.nm 2) L_prices_by_3 ds [some (.dat (tD T)), some (.dat (rowD r)), none, o3, some (.dat (.int n)), some (.ref h.length), none, none, none] (h ++ [.lst (legsD l)]) =
      .nx [some (.dat (tD T)), some (.dat (rowD r)), none, o3, some (.dat (.int n)), some (.ref h.length), none, none, none] (h ++ [.lst (legsD (rounds (wt T r) n r ds.length l))])
  | [], l, _ => rfl
  | d :: ds, l, hl => by
    have t := turn3 H R d o3 h l hl
    rw [forL]
    simp only [asgT, List.set_cons_succ, List.set_cons_zero]
    rw [t, turn_nx, loop3 H R o3 h ds _ (relE_lenN hl _)]
    rfl
def legsOf (T : List (List Int)) (n : Nat) (r : List Nat) : List Int := rounds (wt T r) n r n (List.replicate n 0)
def rowsOf (T : List (List Int)) (n : Nat) (r : List Nat) : List Int := r.zipIdx.map fun p => tm T p.2 p.1 - (legsOf T n r).getD p.1 0
theorem rounds_len {w : Nat → Nat → Int} {n : Nat} {r : List Nat} : ∀ (m : Nat) (l : List Int), (rounds w n r m l).length = l.length
  | 0, l => rfl
  | m + 1, l => by rw [rounds, rounds_len m, relE_len]
theorem p_prices_by {T : List (List Int)} {n : Nat} (H : Ts T n) {r : List Nat} (R : Rel n r) (h : Hep) : m_prices_by [.dat (tD T), .dat (rowD r)] h = .ok (.dat (.tuple [iT (rowsOf T n r), iT (legsOf T n r)])) h := by
  unfold m_prices_by mFun b_prices_by
  have hn := H.hi
  have rl := R.len
  have e0 : List.replicate n (PyData.int 0) = legsD (List.replicate n 0) := by simp [legsD]
  have e1 := mul_lc1 (d := .int 0) (k := n) (h := h) (by omega)
  rw [e0] at e1
  have tl : (T.map iT).length = n := by rw [List.length_map, H.len]
  have tu : tD T = .tuple (T.map iT) := rfl
  wp_walk using "st", tu, H.len, e1
  rw [← tu, mFor_is (h1 := h ++ [.lst (legsD (List.replicate n 0))]) (s := .rng 0 1 n) (by wp_walk using "ev", kRng1_n) (src_rn n), loop3 H R none h _ _ (by simp), List.length_map, List.length_range]
  have ll : (legsOf T n r).length = n := by unfold legsOf; rw [rounds_len]; simp
  rw [show rounds (wt T r) n r n (List.replicate n 0) = legsOf T n r from rfl]
  walk_at "st"
  rw [lc_v (s := .enum (.dat (rowD r)) 0) (vs := (r.zipIdx.map fun p => PyData.tuple [.int (p.2 : Nat), .int (p.1 : Nat)]).map Val.dat) (f := fun v => match v with
      | .dat (.tuple [.int i, .int u]) => .int (tm T i.toNat u.toNat - (legsOf T n r).getD u.toNat 0)
      | _ => .none) (by wp_walk using "ev", rowD) (fun acc i => src_enNt r i _) (by simp [size_is]; omega) (fun v hv => by
    obtain ⟨d, hd, rfl⟩ := List.mem_map.mp hv
    obtain ⟨p, hp, rfl⟩ := List.mem_map.mp hd
    obtain ⟨h1, h2, h3⟩ := idx_ok R p hp
    refine ⟨_, rfl, fun acc => ?_⟩
    have t1 := (ix_T H h1 h2).1
    have t2 := (ix_T H h1 h2).2
    have q : ∀ acc, dIx (.ref h.length) (.dat (.int (p.1 : Nat))) (h ++ [.lst (legsD (legsOf T n r))] ++ [.lst acc]) = .ok (.dat (.int ((legsOf T n r).getD p.1 0))) (h ++ [.lst (legsD (legsOf T n r))] ++ [.lst acc]) := fun acc => by
      unfold dIx
      have : (h ++ [Cell.lst (legsD (legsOf T n r))] ++ [Cell.lst acc])[h.length]? = some (.lst (legsD (legsOf T n r))) := by simp
      simp only [this]
      have hi : p.1 < (legsD (legsOf T n r)).length := by simp [legsD]; omega
      rw [atI_nat hi]
      have := legs_get (l := legsOf T n r) (i := p.1) (by omega)
      rw [List.getElem?_eq_getElem hi] at this
      rw [Option.some.inj this]
      rfl
    wp_walk using "st", t1, t2, q
    simp)]
  walk_at "st"
  have er : ((r.zipIdx.map fun p => PyData.tuple [.int (p.2 : Nat), .int (p.1 : Nat)]).map Val.dat).map (fun v => match v with
      | .dat (.tuple [.int i, .int u]) => PyData.int (tm T i.toNat u.toNat - (legsOf T n r).getD u.toNat 0)
      | _ => .none) = (rowsOf T n r).map .int := by
    unfold rowsOf
    rw [List.map_map, List.map_map, List.map_map]
    exact List.map_congr_left fun p _ => by simp
  rw [er]
  unfold iT legsD
  walk_at "st"
end K56
end K56s_

section K56t_
set_option linter.all false
set_option maxRecDepth 100000
open PySem PySem.Spec PyProof.Rows L2 Vi
/-! the ways "src", "lc", "lcp": a comprehension is run, its function found -/
local macro_rules
  | `(tactic| wp_walk using "st", $ts,*) => `(tactic| simp only [Vi.abs_i, Vi.add_ii, Vi.all_map, Vi.andThen_bad, Vi.andThen_bk, Vi.andThen_ct, Vi.andThen_er, Vi.andThen_nx, Vi.andThen_rt, Vi.bind_bad, Vi.bind_er, Vi.bind_ok, Vi.eq_bb, Vi.eq_ii, Vi.eq_ss, Vi.ge_ii, Vi.gt_ii, Vi.iBool_dict, Vi.iInt_dict, Vi.iLst_dict, Vi.iStr_dict, Vi.iTup_dict, Vi.int_i, Vi.isBool_bool, Vi.isBool_int, Vi.isBool_list, Vi.isBool_none, Vi.isBool_str, Vi.isBool_tuple, Vi.isInt_bool, Vi.isInt_int, Vi.isInt_list, Vi.isInt_none, Vi.isInt_str, Vi.isInt_tuple, Vi.isLst_bool, Vi.isLst_int, Vi.isLst_list, Vi.isLst_none, Vi.isLst_str, Vi.isLst_tuple, Vi.isStr_bool, Vi.isStr_int, Vi.isStr_list, Vi.isStr_none, Vi.isStr_str, Vi.isStr_tuple, Vi.isTup_bool, Vi.isTup_int, Vi.isTup_list, Vi.isTup_none, Vi.isTup_str, Vi.isTup_tuple, Vi.is_none, Vi.isi_bool, Vi.isi_int, Vi.isi_list, Vi.isi_str, Vi.isi_tl, Vi.isi_tuple, Vi.it_dat_list, Vi.it_dat_str, Vi.it_dat_tup, Vi.kCel_0, Vi.kCel_1, Vi.kCel_2, Vi.kCel_3, Vi.kCel_4, Vi.kCel_5, Vi.kCel_6, Vi.kCel_7, Vi.kCel_8, Vi.kCel_9, Vi.kCel_10, Vi.kCel_11, Vi.kCel_12, Vi.kCel_13, Vi.kCel_14, Vi.kCel_15, Vi.kCel_16, Vi.kLst_17, Vi.kLst_18, Vi.kLst_19, Vi.kLst_20, Vi.kLst_21, Vi.kLst_22, Vi.kLst_23, Vi.kLst_24, Vi.kTup_9, Vi.kTup_10, Vi.kTup_11, Vi.kTup_12, Vi.kTup_13, Vi.kEnum_l, Vi.kEnum_t, Vi.kLst_0, Vi.kLst_1, Vi.kLst_10, Vi.kLst_11, Vi.kLst_12, Vi.kLst_13, Vi.kLst_14, Vi.kLst_15, Vi.kLst_16, Vi.kLst_2, Vi.kLst_3, Vi.kLst_4, Vi.kLst_5, Vi.kLst_6, Vi.kLst_7, Vi.kLst_8, Vi.kLst_9, Vi.kTup_0, Vi.kTup_1, Vi.kTup_2, Vi.kTup_3, Vi.kTup_4, Vi.kTup_5, Vi.kTup_6, Vi.kTup_7, Vi.kTup_8, Vi.kZip_ll, Vi.kZip_lt, Vi.kZip_tl, Vi.kZip_tt, Vi.le_ii, Vi.leave_dat, Vi.leave_self, Vi.len_l, Vi.len_t, Vi.list_l, Vi.list_t, Vi.lt_ii, Vi.max_ii, Vi.min_ii, Vi.ne_bb, Vi.ne_ss, Vi.ne_ii, Vi.sl_l, Vi.sl_t, Vi.sub_ii, Vi.trim_self, Vi.tuple_l, Vi.tuple_t, Vi.turn_bad, Vi.turn_bk, Vi.turn_ct, Vi.turn_er, Vi.turn_nx, Vi.turn_rt, Vi.tyC_e, Vi.tyC_l, Vi.tyC_s, Vi.tyC_t, Vi.wipe_0, Vi.wipe_bad, Vi.wipe_bk, Vi.wipe_c, Vi.wipe_ct, Vi.wipe_er, Vi.wipe_nx, Vi.wipe_rt, Vi.x_C, Vi.x_and, Vi.x_app, Vi.x_asg, Vi.x_bin, Vi.x_brk, Vi.x_call, Vi.x_cel, Vi.x_chain, Vi.x_cnt, Vi.x_cons, Vi.x_dats0, Vi.x_datsS, Vi.x_dead, Vi.x_drop, Vi.x_frz, Vi.x_if, Vi.x_ifS, Vi.x_isE, Vi.x_isi, Vi.x_it, Vi.x_ita, Vi.x_kAnd, Vi.x_kChain, Vi.x_kNeg, Vi.x_kNot, Vi.x_kOr, Vi.x_kPar, Vi.x_kTest, Vi.x_lst, Vi.x_meth, Vi.x_neg, Vi.x_next, Vi.x_nil, Vi.x_noPart, Vi.x_not, Vi.x_ok, Vi.x_one, Vi.x_or, Vi.x_par, Vi.x_partG, Vi.kPart_i, Vi.tkM, Vi.dpM, Vi.rvM, Vi.cut_tn, Vi.cut_dn, Vi.cut_tn1, Vi.cut_dn1, Vi.cut_mapS, Vi.cut_d1, Vi.cut_t1, Vi.rev_t, Vi.rev_l, Vi.x_par, Vi.x_kPar, Vi.x_parN, Vi.kParN_0, Vi.kParN_c, List.length_map, Vi.toDat_e, Vi.tup_r, Vi.frz_r, Vi.it_r, List.mem_singleton, List.mem_cons, true_or, or_true, Vi.x_raise, Vi.x_ret, Vi.x_retN, Vi.x_rev, Vi.x_seq, Vi.x_set, Vi.x_sl, Vi.x_store, Vi.x_tAnd, Vi.x_tNot, Vi.x_tOr, Vi.x_test, Vi.x_tup, Vi.x_two, Vi.x_var0, Vi.x_varS, Vi.x_yes, Vi.st_ok', Vi.Out.st_er, Vi.Out.st_bad, Vi.kAsg, Vi.asgT, Vi.asgTs, List.set_cons_succ, List.set_cons_zero, List.map_cons, List.map_nil, List.length_cons, List.length_nil, List.replicate, List.cons_append, List.nil_append, Nat.reduceAdd, Nat.reduceSub, Int.reduceAdd, Int.reduceSub, Int.reduceMul, Int.reduceNeg, if_true, if_false, reduceIte, Bool.not_true, Bool.not_false, Bool.false_eq_true, Bool.true_and, Bool.false_and, Bool.and_true, Bool.and_false, Bool.true_or, Bool.false_or, Bool.or_true, Bool.or_false, decide_true, decide_false, beq_self_eq_true, $[$ts:term],*])
local macro_rules
  | `(tactic| walk_at "st") => `(tactic| wp_walk using "st", id_eq)
local macro_rules
  | `(tactic| walk_at "src") => `(tactic| first | exact src_tup_of _ _ | exact src_list_of _ _ | exact src_rn _ | exact src_en_l _ _ | exact src_en_t _ _ | exact src_z_ll _ _ _ _ | exact src_z_lt _ _ _ _ | exact src_z_tl _ _ _ _ | exact src_z_tt _ _ _ _ | exact src_ri _ _ | exact src_id_t _ | exact src_id_l _)
local macro_rules
  | `(tactic| walk_at "hz") => `(tactic| first | (simp only [size_is, List.length_range, List.length_map, List.length_zipIdx, List.length_zip]; omega) | (simp [size_is]; omega) | (simp [size_is]; done) | exact Nat.le_trans (List.length_filter_le _ _) (by simp [size_is]; omega))
local macro_rules
  | `(tactic| wp_walk using "ev", $ts,*) => `(tactic| first | (simp [$[$ts:term],*, -List.map_tail, -List.drop_one, -List.map_drop, -List.map_take, -List.map_reverse, -List.all_eq_true, -List.any_eq_true, -List.getD_eq_getElem?_getD]; done) | (simp [$[$ts:term],*, -List.map_tail, -List.drop_one, -List.map_drop, -List.map_take, -List.map_reverse, -List.all_eq_true, -List.any_eq_true, -List.getD_eq_getElem?_getD]; exact rfl) | (simp [$[$ts:term],*, -List.map_tail, -List.drop_one, -List.map_drop, -List.map_take, -List.map_reverse, -List.all_eq_true, -List.any_eq_true, -List.getD_eq_getElem?_getD]; exact kRng1_n (by omega)) | (simp [$[$ts:term],*, -List.map_tail, -List.drop_one, -List.map_drop, -List.map_take, -List.map_reverse, -List.all_eq_true, -List.any_eq_true, -List.getD_eq_getElem?_getD]; exact kRng1_i (by omega) (by omega)) | (simp [$[$ts:term],*, -List.map_tail, -List.drop_one, -List.map_drop, -List.map_take, -List.map_reverse, -List.all_eq_true, -List.any_eq_true, -List.getD_eq_getElem?_getD]; exact kRng2_i (by omega) (by omega) (by omega) (by omega)))
local macro_rules
  | `(tactic| wp_walk using "lc", $ts,*) => `(tactic| (
      rw [lc_y ?hi ?hs ?hz ?hx]
      (case hi => wp_walk using "ev", $ts,*)
      (case hs => walk_at "src")
      (case hz => walk_at "hz")
      (case hx => (intro a ha; refine ⟨_, rfl, fun g => ?_⟩; wp_walk using "ev", $ts,*))))
local macro_rules
  | `(tactic| wp_walk using "lcp", $ts,*) => `(tactic| (
      rw [lc_p ?hi ?hs ?hz ?ht ?hx]
      (case hi => wp_walk using "ev", $ts,*)
      (case hs => walk_at "src")
      (case hz => walk_at "hz")
      (case ht => (intro a ha; refine ⟨_, rfl, fun g => ?_⟩; wp_walk using "ev", $ts,*))
      (case hx => (intro a ha hp; refine ⟨_, rfl, fun g => ?_⟩; wp_walk using "ev", $ts,*))))
local macro_rules
  | `(tactic| wp_walk using "s", $ts,*) => `(tactic| simp [$[$ts:term],*, -List.map_tail, -List.drop_one, -List.map_drop, -List.map_take, -List.map_reverse, -List.all_eq_true, -List.any_eq_true, -List.getD_eq_getElem?_getD])
local macro_rules
  | `(tactic| walk_at "s") => `(tactic| simp [-List.map_tail, -List.drop_one, -List.map_drop, -List.map_take, -List.map_reverse, -List.all_eq_true, -List.any_eq_true, -List.getD_eq_getElem?_getD])
local macro_rules
  | `(tactic| walk_at "lc") => `(tactic| wp_walk using "lc", id_eq)
local macro_rules
  | `(tactic| walk_at "lcp") => `(tactic| wp_walk using "lcp", id_eq)
local macro_rules
  | `(tactic| wp_walk using "lcx", $t, $ts,*) => `(tactic| (
      rw [lc_yE ?hi ?hs ?hz ?hE ?hx]
      (case hi => wp_walk using "ev", $ts,*)
      (case hs => walk_at "src")
      (case hE => exact fun a ha => rfl)
      (case hx => exact $t)
      (case hz => walk_at "hz")))
local macro_rules
  | `(tactic| wp_walk using "lcpx", $u, $t, $ts,*) => `(tactic| (
      rw [lc_pE ?hi ?hs ?hz ?hE ?ht ?hx]
      (case hi => wp_walk using "ev", $ts,*)
      (case hs => walk_at "src")
      (case hE => exact fun a ha => rfl)
      (case ht => exact $u)
      (case hx => exact $t)
      (case hz => walk_at "hz")))
local macro_rules
  | `(tactic| wp_walk using "lc2", $t, $ts,*) => `(tactic| (
      rw [lc2_yE ?hi ?hs ?hE ?hi1 ?hs1 ?hE2 ?hz ?hx]
      (case hi => wp_walk using "ev", $ts,*)
      (case hs => walk_at "src")
      (case hE => exact fun a ha => rfl)
      (case hi1 => (intro a ha g; wp_walk using "ev", $ts,*))
      (case hs1 => (intro a ha; walk_at "src"))
      (case hE2 => exact fun a ha b hb => rfl)
      (case hx => exact $t)))
local macro_rules
  | `(tactic| wp_walk using "lc2p", $u, $t, $ts,*) => `(tactic| (
      rw [lc2_pE ?hi ?hs ?hE ?hi1 ?hs1 ?hE2 ?hz ?ht ?hx]
      (case hi => wp_walk using "ev", $ts,*)
      (case hs => walk_at "src")
      (case hE => exact fun a ha => rfl)
      (case hi1 => (intro a ha g; wp_walk using "ev", $ts,*))
      (case hs1 => (intro a ha; walk_at "src"))
      (case hE2 => exact fun a ha b hb => rfl)
      (case ht => exact $u)
      (case hx => exact $t)))
local macro_rules
  | `(tactic| wp_walk using "lci", $i, $t) => `(tactic| (
      rw [lc_yE ?hi ?hs ?hz ?hE ?hx]
      (case hi => exact $i)
      (case hs => walk_at "src")
      (case hE => exact fun a ha => rfl)
      (case hx => exact $t)
      (case hz => walk_at "hz")))
local macro_rules
  | `(tactic| wp_walk using "lcpi", $i, $u, $t) => `(tactic| (
      rw [lc_pE ?hi ?hs ?hz ?hE ?ht ?hx]
      (case hi => exact $i)
      (case hs => walk_at "src")
      (case hE => exact fun a ha => rfl)
      (case ht => exact $u)
      (case hx => exact $t)
      (case hz => walk_at "hz")))
/-! sums and rests -/
local macro_rules
  | `(tactic| walk_at "ar") => `(tactic| (try simp); (repeat (first | (rw [mul_r (by decide)]; simp) | (rw [mul_l (by decide)]; simp) | (rw [mod_ii (by decide)]; simp) | (rw [div_ii (by decide) (log_small (by decide) (by decide))]; simp) | (rw [pow_ii (by decide)]; simp) | (rw [mul_l (mod_small (by decide) (by decide))]; simp))))
local macro_rules
  | `(tactic| wp_walk using "lcf", $f, $t, $ts,*) => `(tactic| (
      rw [lc_yE (f := $f) ?hi ?hs ?hz ?hE ?hx]
      (case hi => wp_walk using "ev", $ts,*)
      (case hs => walk_at "src")
      (case hE => exact fun a ha => rfl)
      (case hx => exact $t)
      (case hz => walk_at "hz")))
namespace K56
open Bas
/-! # what is told -/
def strIs (x : PyData) (s : Str) : Bool := match x with
  | .str y => y == s
  | _ => false
def intsB (n : Nat) : PyData → Bool
  | .tuple xs => decide (xs.length = n) && xs.all intB
  | _ => false
def natsOf : PyData → List Nat
  | .tuple xs => (intsOr xs).map Int.toNat
  | _ => []
def intsD : PyData → List Int
  | .tuple xs => intsOr xs
  | _ => []
def priceI (T : List (List Int)) (a b : List Int) : Bool := (T.zip a).all fun p => (p.1.zip b).all fun q => decide (p.2 + q.2 ≤ q.1)
def toldB (T : List (List Int)) (n : Nat) (most : Int) : PyData → Bool
  | .tuple [x, y] => strIs x "relay" && (orderB y n && decide (sumR T (natsOf y) ≤ most))
  | .tuple [x, y, z] => strIs x "prices" && ((intsB n y && intsB n z) && (priceI T (intsD y) (intsD z) && decide (most < (intsD y).sum + (intsD z).sum)))
  | _ => false
theorem intsB_of {n : Nat} {d : PyData} (h : intsB n d = true) : ∃ l : List Int, d = iT l ∧ l.length = n ∧ intsD d = l := by
  cases d <;> simp only [intsB, Bool.false_eq_true] at h
  rename_i xs
  rw [Bool.and_eq_true, decide_eq_true_eq] at h
  exact ⟨intsOr xs, by unfold iT; rw [← intsOr_of h.2], by rw [intsOr_len]; exact h.1, rfl⟩
theorem order_rel {n : Nat} {d : PyData} (h : orderB d n = true) : ∃ r : List Nat, d = rowD r ∧ Rel n r ∧ natsOf d = r := by
  cases d <;> simp only [orderB, Bool.false_eq_true] at h
  rename_i xs
  simp only [Bool.and_eq_true, decide_eq_true_eq] at h
  obtain ⟨h1, h2, h3⟩ := h
  have p : (intsOr xs).Perm (rgI n) := by
    rw [← h3]
    exact (dInt.sort_perm _).symm
  have e : intsOr xs = ((intsOr xs).map Int.toNat).map fun i : Nat => (i : Int) := by
    rw [List.map_map]
    conv => lhs; rw [← List.map_id (intsOr xs)]
    refine List.map_congr_left fun i hi => ?_
    obtain ⟨k, _, rfl⟩ := List.mem_map.mp (p.mem_iff.mp hi)
    simp
  have pn : ((intsOr xs).map Int.toNat).Perm (List.range n) := by
    have q := p.map Int.toNat
    have : (rgI n).map Int.toNat = List.range n := by
      unfold rgI
      rw [List.map_map]
      simp [Function.comp_def]
    rwa [this] at q
  refine ⟨(intsOr xs).map Int.toNat, ?_, ⟨?_, fun u hu => List.mem_range.mp (pn.mem_iff.mp hu), pn.nodup_iff.mpr List.nodup_range⟩, rfl⟩
  · have q := intsOr_of h2
    have t : ((intsOr xs).map Int.toNat).map (fun i : Nat => PyData.int i) = (intsOr xs).map .int := by
      conv => rhs; rw [e]
      rw [List.map_map, List.map_map, List.map_map]
      rfl
    unfold rowD
    rw [t, ← q]
  · rw [pn.length_eq]; simp
@[simp] theorem p_law_int (d : PyData) (h : Hep) : m__law_is_int [.dat d] h = .ok (.dat (.bool (intB d))) h := by
  unfold m__law_is_int mFun b__law_is_int
  cases d <;> simp [intB]
theorem p_ints (d : PyData) (n : Nat) (hn : n ≤ 100) (h : Hep) : m_are_integers_of [.dat d, .dat (.int n)] h = .ok (.dat (.bool (intsB n d))) h := by
  unfold m_are_integers_of mFun b_are_integers_of
  cases d <;> simp only [intsB] <;> try wp_walk using "st", p_is_sized, sizedB
  rename_i xs
  by_cases c : xs.length = n
  · subst c
    wp_walk using "st", Int.le_refl
    wp_walk using "lcx", (fun d hd g => by
      wp_walk using "st", p_is_integer
      exact rfl), id_eq
    walk_at "st"
  · rw [decide_eq_false c]
    have : (decide ((n : Int) ≤ (xs.length : Int)) && decide ((xs.length : Int) ≤ (n : Int))) = false := by
      rw [Bool.and_eq_false_iff, decide_eq_false_iff_not, decide_eq_false_iff_not]
      omega
    wp_walk using "st", this
theorem p_law_ints (d : PyData) (n : Nat) (hn : n ≤ 100) (h : Hep) : m__law_are_ints [.dat d, .dat (.int n)] h = .ok (.dat (.bool (intsB n d))) h := by
  unfold m__law_are_ints mFun b__law_are_ints
  cases d <;> simp only [intsB] <;> try walk_at "st"
  rename_i xs
  by_cases c : xs.length = n
  · subst c
    walk_at "st"
    wp_walk using "lcx", (fun d hd g => by
      wp_walk using "st", p_law_int
      exact rfl), id_eq
    walk_at "st"
  · rw [decide_eq_false c]
    have : ((xs.length : Int) == (n : Int)) = false := by
      rw [beq_eq_false_iff_ne]
      omega
    wp_walk using "st", this
def rangeB (n : Nat) : PyData → Bool
  | .tuple xs => decide (xs.length = n) && xs.all (withinB · 0 ((n : Int) - 1))
  | _ => false
theorem p_law_row (d : PyData) (n : Nat) (hn : n ≤ 100) (h : Hep) : m__law_is_row [.dat d, .dat (.int n), .dat (.int 0), .dat (.int ((n : Int) - 1))] h = .ok (.dat (.bool (rangeB n d))) h := by
  unfold m__law_is_row mFun b__law_is_row
  cases d <;> simp only [rangeB] <;> try walk_at "st"
  rename_i xs
  by_cases c : xs.length = n
  · subst c
    walk_at "st"
    wp_walk using "lcf", (fun d => PyData.bool (withinB d 0 ((xs.length : Int) - 1))), (fun d hd g => by
      cases d <;> try wp_walk using "st", p_law_int, intB, withinB
      rename_i i
      by_cases c : (0 : Int) ≤ i
      · wp_walk using "st", decide_eq_true c
      · wp_walk using "st", decide_eq_false c), id_eq
    walk_at "st"
  · rw [decide_eq_false c]
    have : ((xs.length : Int) == (n : Int)) = false := by
      rw [beq_eq_false_iff_ne]
      omega
    wp_walk using "st", this
end K56
end K56t_

section K56u_
set_option linter.all false
set_option maxRecDepth 100000
open PySem PySem.Spec PyProof.Rows L2 Vi
/-! the ways "src", "lc", "lcp": a comprehension is run, its function found -/
local macro_rules
  | `(tactic| wp_walk using "st", $ts,*) => `(tactic| simp only [Vi.abs_i, Vi.add_ii, Vi.all_map, Vi.andThen_bad, Vi.andThen_bk, Vi.andThen_ct, Vi.andThen_er, Vi.andThen_nx, Vi.andThen_rt, Vi.bind_bad, Vi.bind_er, Vi.bind_ok, Vi.eq_bb, Vi.eq_ii, Vi.eq_ss, Vi.ge_ii, Vi.gt_ii, Vi.iBool_dict, Vi.iInt_dict, Vi.iLst_dict, Vi.iStr_dict, Vi.iTup_dict, Vi.int_i, Vi.isBool_bool, Vi.isBool_int, Vi.isBool_list, Vi.isBool_none, Vi.isBool_str, Vi.isBool_tuple, Vi.isInt_bool, Vi.isInt_int, Vi.isInt_list, Vi.isInt_none, Vi.isInt_str, Vi.isInt_tuple, Vi.isLst_bool, Vi.isLst_int, Vi.isLst_list, Vi.isLst_none, Vi.isLst_str, Vi.isLst_tuple, Vi.isStr_bool, Vi.isStr_int, Vi.isStr_list, Vi.isStr_none, Vi.isStr_str, Vi.isStr_tuple, Vi.isTup_bool, Vi.isTup_int, Vi.isTup_list, Vi.isTup_none, Vi.isTup_str, Vi.isTup_tuple, Vi.is_none, Vi.isi_bool, Vi.isi_int, Vi.isi_list, Vi.isi_str, Vi.isi_tl, Vi.isi_tuple, Vi.it_dat_list, Vi.it_dat_str, Vi.it_dat_tup, Vi.kCel_0, Vi.kCel_1, Vi.kCel_2, Vi.kCel_3, Vi.kCel_4, Vi.kCel_5, Vi.kCel_6, Vi.kCel_7, Vi.kCel_8, Vi.kCel_9, Vi.kCel_10, Vi.kCel_11, Vi.kCel_12, Vi.kCel_13, Vi.kCel_14, Vi.kCel_15, Vi.kCel_16, Vi.kLst_17, Vi.kLst_18, Vi.kLst_19, Vi.kLst_20, Vi.kLst_21, Vi.kLst_22, Vi.kLst_23, Vi.kLst_24, Vi.kTup_9, Vi.kTup_10, Vi.kTup_11, Vi.kTup_12, Vi.kTup_13, Vi.kEnum_l, Vi.kEnum_t, Vi.kLst_0, Vi.kLst_1, Vi.kLst_10, Vi.kLst_11, Vi.kLst_12, Vi.kLst_13, Vi.kLst_14, Vi.kLst_15, Vi.kLst_16, Vi.kLst_2, Vi.kLst_3, Vi.kLst_4, Vi.kLst_5, Vi.kLst_6, Vi.kLst_7, Vi.kLst_8, Vi.kLst_9, Vi.kTup_0, Vi.kTup_1, Vi.kTup_2, Vi.kTup_3, Vi.kTup_4, Vi.kTup_5, Vi.kTup_6, Vi.kTup_7, Vi.kTup_8, Vi.kZip_ll, Vi.kZip_lt, Vi.kZip_tl, Vi.kZip_tt, Vi.le_ii, Vi.leave_dat, Vi.leave_self, Vi.len_l, Vi.len_t, Vi.list_l, Vi.list_t, Vi.lt_ii, Vi.max_ii, Vi.min_ii, Vi.ne_bb, Vi.ne_ss, Vi.ne_ii, Vi.sl_l, Vi.sl_t, Vi.sub_ii, Vi.trim_self, Vi.tuple_l, Vi.tuple_t, Vi.turn_bad, Vi.turn_bk, Vi.turn_ct, Vi.turn_er, Vi.turn_nx, Vi.turn_rt, Vi.tyC_e, Vi.tyC_l, Vi.tyC_s, Vi.tyC_t, Vi.wipe_0, Vi.wipe_bad, Vi.wipe_bk, Vi.wipe_c, Vi.wipe_ct, Vi.wipe_er, Vi.wipe_nx, Vi.wipe_rt, Vi.x_C, Vi.x_and, Vi.x_app, Vi.x_asg, Vi.x_bin, Vi.x_brk, Vi.x_call, Vi.x_cel, Vi.x_chain, Vi.x_cnt, Vi.x_cons, Vi.x_dats0, Vi.x_datsS, Vi.x_dead, Vi.x_drop, Vi.x_frz, Vi.x_if, Vi.x_ifS, Vi.x_isE, Vi.x_isi, Vi.x_it, Vi.x_ita, Vi.x_kAnd, Vi.x_kChain, Vi.x_kNeg, Vi.x_kNot, Vi.x_kOr, Vi.x_kPar, Vi.x_kTest, Vi.x_lst, Vi.x_meth, Vi.x_neg, Vi.x_next, Vi.x_nil, Vi.x_noPart, Vi.x_not, Vi.x_ok, Vi.x_one, Vi.x_or, Vi.x_par, Vi.x_partG, Vi.kPart_i, Vi.tkM, Vi.dpM, Vi.rvM, Vi.cut_tn, Vi.cut_dn, Vi.cut_tn1, Vi.cut_dn1, Vi.cut_mapS, Vi.cut_d1, Vi.cut_t1, Vi.rev_t, Vi.rev_l, Vi.x_par, Vi.x_kPar, Vi.x_parN, Vi.kParN_0, Vi.kParN_c, List.length_map, Vi.toDat_e, Vi.tup_r, Vi.frz_r, Vi.it_r, List.mem_singleton, List.mem_cons, true_or, or_true, Vi.x_raise, Vi.x_ret, Vi.x_retN, Vi.x_rev, Vi.x_seq, Vi.x_set, Vi.x_sl, Vi.x_store, Vi.x_tAnd, Vi.x_tNot, Vi.x_tOr, Vi.x_test, Vi.x_tup, Vi.x_two, Vi.x_var0, Vi.x_varS, Vi.x_yes, Vi.st_ok', Vi.Out.st_er, Vi.Out.st_bad, Vi.kAsg, Vi.asgT, Vi.asgTs, List.set_cons_succ, List.set_cons_zero, List.map_cons, List.map_nil, List.length_cons, List.length_nil, List.replicate, List.cons_append, List.nil_append, Nat.reduceAdd, Nat.reduceSub, Int.reduceAdd, Int.reduceSub, Int.reduceMul, Int.reduceNeg, if_true, if_false, reduceIte, Bool.not_true, Bool.not_false, Bool.false_eq_true, Bool.true_and, Bool.false_and, Bool.and_true, Bool.and_false, Bool.true_or, Bool.false_or, Bool.or_true, Bool.or_false, decide_true, decide_false, beq_self_eq_true, $[$ts:term],*])
local macro_rules
  | `(tactic| walk_at "st") => `(tactic| wp_walk using "st", id_eq)
local macro_rules
  | `(tactic| walk_at "src") => `(tactic| first | exact src_tup_of _ _ | exact src_list_of _ _ | exact src_rn _ | exact src_en_l _ _ | exact src_en_t _ _ | exact src_z_ll _ _ _ _ | exact src_z_lt _ _ _ _ | exact src_z_tl _ _ _ _ | exact src_z_tt _ _ _ _ | exact src_ri _ _ | exact src_id_t _ | exact src_id_l _)
local macro_rules
  | `(tactic| walk_at "hz") => `(tactic| first | (simp only [size_is, List.length_range, List.length_map, List.length_zipIdx, List.length_zip]; omega) | (simp [size_is]; omega) | (simp [size_is]; done) | exact Nat.le_trans (List.length_filter_le _ _) (by simp [size_is]; omega))
local macro_rules
  | `(tactic| wp_walk using "ev", $ts,*) => `(tactic| first | (simp [$[$ts:term],*, -List.map_tail, -List.drop_one, -List.map_drop, -List.map_take, -List.map_reverse, -List.all_eq_true, -List.any_eq_true, -List.getD_eq_getElem?_getD]; done) | (simp [$[$ts:term],*, -List.map_tail, -List.drop_one, -List.map_drop, -List.map_take, -List.map_reverse, -List.all_eq_true, -List.any_eq_true, -List.getD_eq_getElem?_getD]; exact rfl) | (simp [$[$ts:term],*, -List.map_tail, -List.drop_one, -List.map_drop, -List.map_take, -List.map_reverse, -List.all_eq_true, -List.any_eq_true, -List.getD_eq_getElem?_getD]; exact kRng1_n (by omega)) | (simp [$[$ts:term],*, -List.map_tail, -List.drop_one, -List.map_drop, -List.map_take, -List.map_reverse, -List.all_eq_true, -List.any_eq_true, -List.getD_eq_getElem?_getD]; exact kRng1_i (by omega) (by omega)) | (simp [$[$ts:term],*, -List.map_tail, -List.drop_one, -List.map_drop, -List.map_take, -List.map_reverse, -List.all_eq_true, -List.any_eq_true, -List.getD_eq_getElem?_getD]; exact kRng2_i (by omega) (by omega) (by omega) (by omega)))
local macro_rules
  | `(tactic| wp_walk using "lc", $ts,*) => `(tactic| (
      rw [lc_y ?hi ?hs ?hz ?hx]
      (case hi => wp_walk using "ev", $ts,*)
      (case hs => walk_at "src")
      (case hz => walk_at "hz")
      (case hx => (intro a ha; refine ⟨_, rfl, fun g => ?_⟩; wp_walk using "ev", $ts,*))))
local macro_rules
  | `(tactic| wp_walk using "lcp", $ts,*) => `(tactic| (
      rw [lc_p ?hi ?hs ?hz ?ht ?hx]
      (case hi => wp_walk using "ev", $ts,*)
      (case hs => walk_at "src")
      (case hz => walk_at "hz")
      (case ht => (intro a ha; refine ⟨_, rfl, fun g => ?_⟩; wp_walk using "ev", $ts,*))
      (case hx => (intro a ha hp; refine ⟨_, rfl, fun g => ?_⟩; wp_walk using "ev", $ts,*))))
local macro_rules
  | `(tactic| wp_walk using "s", $ts,*) => `(tactic| simp [$[$ts:term],*, -List.map_tail, -List.drop_one, -List.map_drop, -List.map_take, -List.map_reverse, -List.all_eq_true, -List.any_eq_true, -List.getD_eq_getElem?_getD])
local macro_rules
  | `(tactic| walk_at "s") => `(tactic| simp [-List.map_tail, -List.drop_one, -List.map_drop, -List.map_take, -List.map_reverse, -List.all_eq_true, -List.any_eq_true, -List.getD_eq_getElem?_getD])
local macro_rules
  | `(tactic| walk_at "lc") => `(tactic| wp_walk using "lc", id_eq)
local macro_rules
  | `(tactic| walk_at "lcp") => `(tactic| wp_walk using "lcp", id_eq)
local macro_rules
  | `(tactic| wp_walk using "lcx", $t, $ts,*) => `(tactic| (
      rw [lc_yE ?hi ?hs ?hz ?hE ?hx]
      (case hi => wp_walk using "ev", $ts,*)
      (case hs => walk_at "src")
      (case hE => exact fun a ha => rfl)
      (case hx => exact $t)
      (case hz => walk_at "hz")))
local macro_rules
  | `(tactic| wp_walk using "lcpx", $u, $t, $ts,*) => `(tactic| (
      rw [lc_pE ?hi ?hs ?hz ?hE ?ht ?hx]
      (case hi => wp_walk using "ev", $ts,*)
      (case hs => walk_at "src")
      (case hE => exact fun a ha => rfl)
      (case ht => exact $u)
      (case hx => exact $t)
      (case hz => walk_at "hz")))
local macro_rules
  | `(tactic| wp_walk using "lc2", $t, $ts,*) => `(tactic| (
      rw [lc2_yE ?hi ?hs ?hE ?hi1 ?hs1 ?hE2 ?hz ?hx]
      (case hi => wp_walk using "ev", $ts,*)
      (case hs => walk_at "src")
      (case hE => exact fun a ha => rfl)
      (case hi1 => (intro a ha g; wp_walk using "ev", $ts,*))
      (case hs1 => (intro a ha; walk_at "src"))
      (case hE2 => exact fun a ha b hb => rfl)
      (case hx => exact $t)))
local macro_rules
  | `(tactic| wp_walk using "lc2p", $u, $t, $ts,*) => `(tactic| (
      rw [lc2_pE ?hi ?hs ?hE ?hi1 ?hs1 ?hE2 ?hz ?ht ?hx]
      (case hi => wp_walk using "ev", $ts,*)
      (case hs => walk_at "src")
      (case hE => exact fun a ha => rfl)
      (case hi1 => (intro a ha g; wp_walk using "ev", $ts,*))
      (case hs1 => (intro a ha; walk_at "src"))
      (case hE2 => exact fun a ha b hb => rfl)
      (case ht => exact $u)
      (case hx => exact $t)))
local macro_rules
  | `(tactic| wp_walk using "lci", $i, $t) => `(tactic| (
      rw [lc_yE ?hi ?hs ?hz ?hE ?hx]
      (case hi => exact $i)
      (case hs => walk_at "src")
      (case hE => exact fun a ha => rfl)
      (case hx => exact $t)
      (case hz => walk_at "hz")))
local macro_rules
  | `(tactic| wp_walk using "lcpi", $i, $u, $t) => `(tactic| (
      rw [lc_pE ?hi ?hs ?hz ?hE ?ht ?hx]
      (case hi => exact $i)
      (case hs => walk_at "src")
      (case hE => exact fun a ha => rfl)
      (case ht => exact $u)
      (case hx => exact $t)
      (case hz => walk_at "hz")))
/-! sums and rests -/
local macro_rules
  | `(tactic| walk_at "ar") => `(tactic| (try simp); (repeat (first | (rw [mul_r (by decide)]; simp) | (rw [mul_l (by decide)]; simp) | (rw [mod_ii (by decide)]; simp) | (rw [div_ii (by decide) (log_small (by decide) (by decide))]; simp) | (rw [pow_ii (by decide)]; simp) | (rw [mul_l (mod_small (by decide) (by decide))]; simp))))
local macro_rules
  | `(tactic| wp_walk using "lcf", $f, $t, $ts,*) => `(tactic| (
      rw [lc_yE (f := $f) ?hi ?hs ?hz ?hE ?hx]
      (case hi => wp_walk using "ev", $ts,*)
      (case hs => walk_at "src")
      (case hE => exact fun a ha => rfl)
      (case hx => exact $t)
      (case hz => walk_at "hz")))
namespace K56
open Bas
theorem len_cases (xs : List PyData) : (∃ x y, xs = [x, y]) ∨ (∃ x y z, xs = [x, y, z]) ∨ ((xs.length ≠ 2 ∧ xs.length ≠ 3)) := by
  rcases xs with _ | ⟨a, _ | ⟨b, _ | ⟨c, _ | ⟨d, e⟩⟩⟩⟩
  · exact .inr (.inr (by simp))
  · exact .inr (.inr (by simp))
  · exact .inl ⟨a, b, rfl⟩
  · exact .inr (.inl ⟨a, b, c, rfl⟩)
  · exact .inr (.inr (by simp))
theorem toldB_no {T : List (List Int)} {n : Nat} {most : Int} {xs : List PyData} (h : xs.length ≠ 2 ∧ xs.length ≠ 3) : toldB T n most (.tuple xs) = false := by
  rcases xs with _ | ⟨a, _ | ⟨b, _ | ⟨c, _ | ⟨d, e⟩⟩⟩⟩
  · rfl
  · rfl
  · simp at h
  · simp at h
  · rfl
def dearB (b : List Int) (p : List Int × Int) : Bool := (p.1.zip b).any fun q => decide (q.1 < p.2 + q.2)
theorem dear_iff (T : List (List Int)) (a b : List Int) : (T.zip a).any (dearB b) = !priceI T a b := by
  unfold priceI
  rw [Bool.eq_iff_iff, List.any_eq_true, Bool.not_eq_true', Bool.eq_false_iff]
  simp only [ne_eq, List.all_eq_true, decide_eq_true_eq, dearB, List.any_eq_true]
  constructor
  · rintro ⟨p, hp, q, hq, h⟩ z
    have := z p hp q hq
    omega
  · intro z
    apply Classical.byContradiction
    intro c
    exact z fun p hp q hq => Classical.byContradiction fun d => c ⟨p, hp, q, hq, by omega⟩
theorem ix3 (x y z : PyData) (g : Hep) : dIx (.dat (.tuple [x, y, z])) (.dat (.int 0)) g = .ok (.dat x) g ∧ dIx (.dat (.tuple [x, y, z])) (.dat (.int 1)) g = .ok (.dat y) g ∧ dIx (.dat (.tuple [x, y, z])) (.dat (.int 2)) g = .ok (.dat z) g := ⟨rfl, rfl, rfl⟩
theorem ix2 (x y : PyData) (g : Hep) : dIx (.dat (.tuple [x, y])) (.dat (.int 0)) g = .ok (.dat x) g ∧ dIx (.dat (.tuple [x, y])) (.dat (.int 1)) g = .ok (.dat y) g := ⟨rfl, rfl⟩
theorem zip_ok {T : List (List Int)} {n : Nat} (H : Ts T n) {a : List Int} : ∀ p ∈ T.zip a, p.1.length = n := fun p hp => H.row _ (List.of_mem_zip hp).1
theorem p_is_told {T : List (List Int)} {n : Nat} (H : Ts T n) (most : Int) (hm : 0 ≤ most) (d : PyData) (h : Hep) : m_is_relay_told [.dat (tD T), .dat (.int most), .dat d] h = .ok (.dat (.bool (toldB T n most d))) h := by
  unfold m_is_relay_told mFun b_is_relay_told
  have hn := H.hi
  have hs2 : short2 (tD T) = true := by
    simp only [short2, tD, List.length_map, Bool.and_eq_true, decide_eq_true_eq]
    refine ⟨by rw [H.len]; omega, List.all_eq_true.mpr fun x hx => ?_⟩
    obtain ⟨r, hr, rfl⟩ := List.mem_map.mp hx
    simp only [shortB, iT, List.length_map, decide_eq_true_eq]
    rw [H.row r hr]
    omega
  have e1 := p_check_most (tD T) (.int most) hs2 h
  rw [H.times] at e1
  simp only [numB, decide_eq_true hm, if_true] at e1
  have tl : fLen [.dat (tD T)] h = .ok (.dat (.int n)) h := by
    unfold tD
    rw [len_t, List.length_map, H.len]
  wp_walk using "st", e1, tl, p_is_sized
  cases d with
  | tuple xs =>
    simp only [sizedB]
    rcases len_cases xs with ⟨x, y, rfl⟩ | ⟨x, y, z, rfl⟩ | hl
    · have c1 : (decide ((2 : Int) ≤ ((2 : Nat) : Int)) && decide (((2 : Nat) : Int) ≤ 3)) = true := by decide
      have c2 : ((((2 : Nat) : Int) == 2)) = true := by decide
      have c3 : ((((2 : Nat) : Int) == 3)) = false := by decide
      have i0 := fun g => (ix2 x y g).1
      have i1 := fun g => (ix2 x y g).2
      wp_walk using "st", c1, i0, i1, toldB
      cases x with
      | str s =>
        rcases bcase (s == "relay") with q | q
        · have io := fun g => p_is_order y n (by omega) g
          wp_walk using "st", c_RELAY, q, c2, i0, i1, io, strIs
          rcases bcase (orderB y n) with qo | qo
          · obtain ⟨r, rfl, R, en⟩ := order_rel qo
            have rs := fun g => p_relay_sum H R g
            wp_walk using "st", qo, rs, en
          · wp_walk using "st", qo
        · rcases bcase (s == "prices") with q2 | q2
          · wp_walk using "st", c_RELAY, c_PRICES, q, q2, i0, c3, strIs
          · wp_walk using "st", c_RELAY, c_PRICES, q, q2, i0, strIs
      | _ => wp_walk using "st", strIs
    · have c1 : (decide ((2 : Int) ≤ ((3 : Nat) : Int)) && decide (((3 : Nat) : Int) ≤ 3)) = true := by decide
      have c2 : ((((3 : Nat) : Int) == 2)) = false := by decide
      have c3 : ((((3 : Nat) : Int) == 3)) = true := by decide
      have i0 := fun g => (ix3 x y z g).1
      have i1 := fun g => (ix3 x y z g).2.1
      have i2 := fun g => (ix3 x y z g).2.2
      wp_walk using "st", c1, i0, toldB
      cases x with
      | str s =>
        rcases bcase (s == "relay") with q | q
        · have q2 : (s == ("prices" : Str)) = false := by
            rw [beq_iff_eq] at q
            subst q
            decide
          wp_walk using "st", c_RELAY, c_PRICES, q, q2, c2, i0, strIs
        · rcases bcase (s == "prices") with q2 | q2
          · wp_walk using "st", c_RELAY, c_PRICES, q, q2, i0, c3, strIs
            have hi1 := fun (d : PyData) g => p_ints d n (by omega) g
            wp_walk using "lcx", (fun d hd g => by
              wp_walk using "st", hi1
              exact rfl), id_eq
            have ab : fAll [.dat (.list [.bool (intsB n y), .bool (intsB n z)])] h = .ok (.dat (.bool (intsB n y && intsB n z))) h := by
              have q := all_map (h := h) (fun b : Bool => b) [intsB n y, intsB n z]
              simpa using q
            wp_walk using "st", List.drop_succ_cons, List.drop_zero, ab
            rcases bcase (intsB n y && intsB n z) with q3 | q3
            · have q4 := q3
              rw [Bool.and_eq_true] at q4
              obtain ⟨a, rfl, la, ea⟩ := intsB_of q4.1
              obtain ⟨b, rfl, lb, eb⟩ := intsB_of q4.2
              wp_walk using "st", q3, ea, eb
              rw [mFor_is (h1 := h) (s := .zip (.dat (.tuple (T.map iT))) (.dat (.tuple (a.map .int)))) (xs := (T.zip a).map fun p : List Int × Int => .tuple [iT p.1, .int p.2]) (by wp_walk using "st", i1; wp_walk using "st", tD, iT) (src_z_tt iT PyData.int T a)]
              rw [forL_any (v := .dat (.bool false)) (p := dearB b) (fun p hp => ⟨_, rfl, by
                unfold L_is_relay_told_1
                have pl := zip_ok H p hp
                wp_walk using "st", i2
                wp_walk using "lcx", (fun q hq g => by
                  walk_at "st"
                  exact rfl), iT
                wp_walk using "st", any_map
                rcases bcase (dearB b p) with w | w
                · have w2 := w
                  unfold dearB at w2
                  wp_walk using "st", w, w2
                · have w2 := w
                  unfold dearB at w2
                  wp_walk using "st", w, w2⟩)]
              rw [dear_iff]
              rcases bcase (priceI T a b) with w | w
              · have sa : ∀ g, fSum [.dat (iT a)] g = .ok (.dat (.int a.sum)) g := fun g => sum_t
                have sb : ∀ g, fSum [.dat (iT b)] g = .ok (.dat (.int b.sum)) g := fun g => sum_t
                wp_walk using "st", w, i1, i2, sa, sb
              · wp_walk using "st", w
            · wp_walk using "st", q3
          · wp_walk using "st", c_RELAY, c_PRICES, q, q2, i0, strIs
      | _ => wp_walk using "st", strIs
    · have c1 : (decide ((2 : Int) ≤ (xs.length : Int)) && decide ((xs.length : Int) ≤ 3)) = false := by
        rw [Bool.and_eq_false_iff, decide_eq_false_iff_not, decide_eq_false_iff_not]
        omega
      rw [toldB_no hl]
      wp_walk using "st", c1
  | _ =>
    wp_walk using "st", sizedB
    rfl
end K56
end K56u_

section K56v_
set_option linter.all false
set_option maxRecDepth 100000
open PySem PySem.Spec PyProof.Rows L2 Vi
/-! the ways "src", "lc", "lcp": a comprehension is run, its function found -/
local macro_rules
  | `(tactic| wp_walk using "st", $ts,*) => `(tactic| simp only [Vi.abs_i, Vi.add_ii, Vi.all_map, Vi.andThen_bad, Vi.andThen_bk, Vi.andThen_ct, Vi.andThen_er, Vi.andThen_nx, Vi.andThen_rt, Vi.bind_bad, Vi.bind_er, Vi.bind_ok, Vi.eq_bb, Vi.eq_ii, Vi.eq_ss, Vi.ge_ii, Vi.gt_ii, Vi.iBool_dict, Vi.iInt_dict, Vi.iLst_dict, Vi.iStr_dict, Vi.iTup_dict, Vi.int_i, Vi.isBool_bool, Vi.isBool_int, Vi.isBool_list, Vi.isBool_none, Vi.isBool_str, Vi.isBool_tuple, Vi.isInt_bool, Vi.isInt_int, Vi.isInt_list, Vi.isInt_none, Vi.isInt_str, Vi.isInt_tuple, Vi.isLst_bool, Vi.isLst_int, Vi.isLst_list, Vi.isLst_none, Vi.isLst_str, Vi.isLst_tuple, Vi.isStr_bool, Vi.isStr_int, Vi.isStr_list, Vi.isStr_none, Vi.isStr_str, Vi.isStr_tuple, Vi.isTup_bool, Vi.isTup_int, Vi.isTup_list, Vi.isTup_none, Vi.isTup_str, Vi.isTup_tuple, Vi.is_none, Vi.isi_bool, Vi.isi_int, Vi.isi_list, Vi.isi_str, Vi.isi_tl, Vi.isi_tuple, Vi.it_dat_list, Vi.it_dat_str, Vi.it_dat_tup, Vi.kCel_0, Vi.kCel_1, Vi.kCel_2, Vi.kCel_3, Vi.kCel_4, Vi.kCel_5, Vi.kCel_6, Vi.kCel_7, Vi.kCel_8, Vi.kCel_9, Vi.kCel_10, Vi.kCel_11, Vi.kCel_12, Vi.kCel_13, Vi.kCel_14, Vi.kCel_15, Vi.kCel_16, Vi.kLst_17, Vi.kLst_18, Vi.kLst_19, Vi.kLst_20, Vi.kLst_21, Vi.kLst_22, Vi.kLst_23, Vi.kLst_24, Vi.kTup_9, Vi.kTup_10, Vi.kTup_11, Vi.kTup_12, Vi.kTup_13, Vi.kEnum_l, Vi.kEnum_t, Vi.kLst_0, Vi.kLst_1, Vi.kLst_10, Vi.kLst_11, Vi.kLst_12, Vi.kLst_13, Vi.kLst_14, Vi.kLst_15, Vi.kLst_16, Vi.kLst_2, Vi.kLst_3, Vi.kLst_4, Vi.kLst_5, Vi.kLst_6, Vi.kLst_7, Vi.kLst_8, Vi.kLst_9, Vi.kTup_0, Vi.kTup_1, Vi.kTup_2, Vi.kTup_3, Vi.kTup_4, Vi.kTup_5, Vi.kTup_6, Vi.kTup_7, Vi.kTup_8, Vi.kZip_ll, Vi.kZip_lt, Vi.kZip_tl, Vi.kZip_tt, Vi.le_ii, Vi.leave_dat, Vi.leave_self, Vi.len_l, Vi.len_t, Vi.list_l, Vi.list_t, Vi.lt_ii, Vi.max_ii, Vi.min_ii, Vi.ne_bb, Vi.ne_ss, Vi.ne_ii, Vi.sl_l, Vi.sl_t, Vi.sub_ii, Vi.trim_self, Vi.tuple_l, Vi.tuple_t, Vi.turn_bad, Vi.turn_bk, Vi.turn_ct, Vi.turn_er, Vi.turn_nx, Vi.turn_rt, Vi.tyC_e, Vi.tyC_l, Vi.tyC_s, Vi.tyC_t, Vi.wipe_0, Vi.wipe_bad, Vi.wipe_bk, Vi.wipe_c, Vi.wipe_ct, Vi.wipe_er, Vi.wipe_nx, Vi.wipe_rt, Vi.x_C, Vi.x_and, Vi.x_app, Vi.x_asg, Vi.x_bin, Vi.x_brk, Vi.x_call, Vi.x_cel, Vi.x_chain, Vi.x_cnt, Vi.x_cons, Vi.x_dats0, Vi.x_datsS, Vi.x_dead, Vi.x_drop, Vi.x_frz, Vi.x_if, Vi.x_ifS, Vi.x_isE, Vi.x_isi, Vi.x_it, Vi.x_ita, Vi.x_kAnd, Vi.x_kChain, Vi.x_kNeg, Vi.x_kNot, Vi.x_kOr, Vi.x_kPar, Vi.x_kTest, Vi.x_lst, Vi.x_meth, Vi.x_neg, Vi.x_next, Vi.x_nil, Vi.x_noPart, Vi.x_not, Vi.x_ok, Vi.x_one, Vi.x_or, Vi.x_par, Vi.x_partG, Vi.kPart_i, Vi.tkM, Vi.dpM, Vi.rvM, Vi.cut_tn, Vi.cut_dn, Vi.cut_tn1, Vi.cut_dn1, Vi.cut_mapS, Vi.cut_d1, Vi.cut_t1, Vi.rev_t, Vi.rev_l, Vi.x_par, Vi.x_kPar, Vi.x_parN, Vi.kParN_0, Vi.kParN_c, List.length_map, Vi.toDat_e, Vi.tup_r, Vi.frz_r, Vi.it_r, List.mem_singleton, List.mem_cons, true_or, or_true, Vi.x_raise, Vi.x_ret, Vi.x_retN, Vi.x_rev, Vi.x_seq, Vi.x_set, Vi.x_sl, Vi.x_store, Vi.x_tAnd, Vi.x_tNot, Vi.x_tOr, Vi.x_test, Vi.x_tup, Vi.x_two, Vi.x_var0, Vi.x_varS, Vi.x_yes, Vi.st_ok', Vi.Out.st_er, Vi.Out.st_bad, Vi.kAsg, Vi.asgT, Vi.asgTs, List.set_cons_succ, List.set_cons_zero, List.map_cons, List.map_nil, List.length_cons, List.length_nil, List.replicate, List.cons_append, List.nil_append, Nat.reduceAdd, Nat.reduceSub, Int.reduceAdd, Int.reduceSub, Int.reduceMul, Int.reduceNeg, if_true, if_false, reduceIte, Bool.not_true, Bool.not_false, Bool.false_eq_true, Bool.true_and, Bool.false_and, Bool.and_true, Bool.and_false, Bool.true_or, Bool.false_or, Bool.or_true, Bool.or_false, decide_true, decide_false, beq_self_eq_true, $[$ts:term],*])
local macro_rules
  | `(tactic| walk_at "st") => `(tactic| wp_walk using "st", id_eq)
local macro_rules
  | `(tactic| walk_at "src") => `(tactic| first | exact src_tup_of _ _ | exact src_list_of _ _ | exact src_rn _ | exact src_en_l _ _ | exact src_en_t _ _ | exact src_z_ll _ _ _ _ | exact src_z_lt _ _ _ _ | exact src_z_tl _ _ _ _ | exact src_z_tt _ _ _ _ | exact src_ri _ _ | exact src_id_t _ | exact src_id_l _)
local macro_rules
  | `(tactic| walk_at "hz") => `(tactic| first | (simp only [size_is, List.length_range, List.length_map, List.length_zipIdx, List.length_zip]; omega) | (simp [size_is]; omega) | (simp [size_is]; done) | exact Nat.le_trans (List.length_filter_le _ _) (by simp [size_is]; omega))
local macro_rules
  | `(tactic| wp_walk using "ev", $ts,*) => `(tactic| first | (simp [$[$ts:term],*, -List.map_tail, -List.drop_one, -List.map_drop, -List.map_take, -List.map_reverse, -List.all_eq_true, -List.any_eq_true, -List.getD_eq_getElem?_getD]; done) | (simp [$[$ts:term],*, -List.map_tail, -List.drop_one, -List.map_drop, -List.map_take, -List.map_reverse, -List.all_eq_true, -List.any_eq_true, -List.getD_eq_getElem?_getD]; exact rfl) | (simp [$[$ts:term],*, -List.map_tail, -List.drop_one, -List.map_drop, -List.map_take, -List.map_reverse, -List.all_eq_true, -List.any_eq_true, -List.getD_eq_getElem?_getD]; exact kRng1_n (by omega)) | (simp [$[$ts:term],*, -List.map_tail, -List.drop_one, -List.map_drop, -List.map_take, -List.map_reverse, -List.all_eq_true, -List.any_eq_true, -List.getD_eq_getElem?_getD]; exact kRng1_i (by omega) (by omega)) | (simp [$[$ts:term],*, -List.map_tail, -List.drop_one, -List.map_drop, -List.map_take, -List.map_reverse, -List.all_eq_true, -List.any_eq_true, -List.getD_eq_getElem?_getD]; exact kRng2_i (by omega) (by omega) (by omega) (by omega)))
local macro_rules
  | `(tactic| wp_walk using "lc", $ts,*) => `(tactic| (
      rw [lc_y ?hi ?hs ?hz ?hx]
      (case hi => wp_walk using "ev", $ts,*)
      (case hs => walk_at "src")
      (case hz => walk_at "hz")
      (case hx => (intro a ha; refine ⟨_, rfl, fun g => ?_⟩; wp_walk using "ev", $ts,*))))
local macro_rules
  | `(tactic| wp_walk using "lcp", $ts,*) => `(tactic| (
      rw [lc_p ?hi ?hs ?hz ?ht ?hx]
      (case hi => wp_walk using "ev", $ts,*)
      (case hs => walk_at "src")
      (case hz => walk_at "hz")
      (case ht => (intro a ha; refine ⟨_, rfl, fun g => ?_⟩; wp_walk using "ev", $ts,*))
      (case hx => (intro a ha hp; refine ⟨_, rfl, fun g => ?_⟩; wp_walk using "ev", $ts,*))))
local macro_rules
  | `(tactic| wp_walk using "s", $ts,*) => `(tactic| simp [$[$ts:term],*, -List.map_tail, -List.drop_one, -List.map_drop, -List.map_take, -List.map_reverse, -List.all_eq_true, -List.any_eq_true, -List.getD_eq_getElem?_getD])
local macro_rules
  | `(tactic| walk_at "s") => `(tactic| simp [-List.map_tail, -List.drop_one, -List.map_drop, -List.map_take, -List.map_reverse, -List.all_eq_true, -List.any_eq_true, -List.getD_eq_getElem?_getD])
local macro_rules
  | `(tactic| walk_at "lc") => `(tactic| wp_walk using "lc", id_eq)
local macro_rules
  | `(tactic| walk_at "lcp") => `(tactic| wp_walk using "lcp", id_eq)
local macro_rules
  | `(tactic| wp_walk using "lcx", $t, $ts,*) => `(tactic| (
      rw [lc_yE ?hi ?hs ?hz ?hE ?hx]
      (case hi => wp_walk using "ev", $ts,*)
      (case hs => walk_at "src")
      (case hE => exact fun a ha => rfl)
      (case hx => exact $t)
      (case hz => walk_at "hz")))
local macro_rules
  | `(tactic| wp_walk using "lcpx", $u, $t, $ts,*) => `(tactic| (
      rw [lc_pE ?hi ?hs ?hz ?hE ?ht ?hx]
      (case hi => wp_walk using "ev", $ts,*)
      (case hs => walk_at "src")
      (case hE => exact fun a ha => rfl)
      (case ht => exact $u)
      (case hx => exact $t)
      (case hz => walk_at "hz")))
local macro_rules
  | `(tactic| wp_walk using "lc2", $t, $ts,*) => `(tactic| (
      rw [lc2_yE ?hi ?hs ?hE ?hi1 ?hs1 ?hE2 ?hz ?hx]
      (case hi => wp_walk using "ev", $ts,*)
      (case hs => walk_at "src")
      (case hE => exact fun a ha => rfl)
      (case hi1 => (intro a ha g; wp_walk using "ev", $ts,*))
      (case hs1 => (intro a ha; walk_at "src"))
      (case hE2 => exact fun a ha b hb => rfl)
      (case hx => exact $t)))
local macro_rules
  | `(tactic| wp_walk using "lc2p", $u, $t, $ts,*) => `(tactic| (
      rw [lc2_pE ?hi ?hs ?hE ?hi1 ?hs1 ?hE2 ?hz ?ht ?hx]
      (case hi => wp_walk using "ev", $ts,*)
      (case hs => walk_at "src")
      (case hE => exact fun a ha => rfl)
      (case hi1 => (intro a ha g; wp_walk using "ev", $ts,*))
      (case hs1 => (intro a ha; walk_at "src"))
      (case hE2 => exact fun a ha b hb => rfl)
      (case ht => exact $u)
      (case hx => exact $t)))
local macro_rules
  | `(tactic| wp_walk using "lci", $i, $t) => `(tactic| (
      rw [lc_yE ?hi ?hs ?hz ?hE ?hx]
      (case hi => exact $i)
      (case hs => walk_at "src")
      (case hE => exact fun a ha => rfl)
      (case hx => exact $t)
      (case hz => walk_at "hz")))
local macro_rules
  | `(tactic| wp_walk using "lcpi", $i, $u, $t) => `(tactic| (
      rw [lc_pE ?hi ?hs ?hz ?hE ?ht ?hx]
      (case hi => exact $i)
      (case hs => walk_at "src")
      (case hE => exact fun a ha => rfl)
      (case ht => exact $u)
      (case hx => exact $t)
      (case hz => walk_at "hz")))
/-! sums and rests -/
local macro_rules
  | `(tactic| walk_at "ar") => `(tactic| (try simp); (repeat (first | (rw [mul_r (by decide)]; simp) | (rw [mul_l (by decide)]; simp) | (rw [mod_ii (by decide)]; simp) | (rw [div_ii (by decide) (log_small (by decide) (by decide))]; simp) | (rw [pow_ii (by decide)]; simp) | (rw [mul_l (mod_small (by decide) (by decide))]; simp))))
local macro_rules
  | `(tactic| wp_walk using "lcf", $f, $t, $ts,*) => `(tactic| (
      rw [lc_yE (f := $f) ?hi ?hs ?hz ?hE ?hx]
      (case hi => wp_walk using "ev", $ts,*)
      (case hs => walk_at "src")
      (case hE => exact fun a ha => rfl)
      (case hx => exact $t)
      (case hz => walk_at "hz")))
namespace K56
open Bas
theorem range_order {n : Nat} {d : PyData} (hn : n ≤ 100) : orderB d n = (rangeB n d && (match d with | .tuple xs => decide (dInt.sort (intsOr xs) = rgI n) | _ => false)) := by
  cases d <;> simp only [orderB, rangeB, Bool.and_false]
  rename_i xs
  by_cases c : xs.length = n
  · rw [decide_eq_true c, Bool.true_and, Bool.true_and]
    rcases bcase (decide (dInt.sort (intsOr xs) = rgI n)) with w | w
    · rw [w, Bool.and_true, Bool.and_true]
      rw [decide_eq_true_eq] at w
      rcases bcase (xs.all intB) with q | q
      · rw [q]
        symm
        refine List.all_eq_true.mpr fun x hx => ?_
        have e := intsOr_of q
        rw [e] at hx
        obtain ⟨i, hi, rfl⟩ := List.mem_map.mp hx
        have hm : i ∈ rgI n := by rw [← w]; exact (dInt.sort_mem _).mpr hi
        obtain ⟨k, hk, rfl⟩ := List.mem_map.mp hm
        have := List.mem_range.mp hk
        simp only [withinB, Bool.and_eq_true, decide_eq_true_eq]
        omega
      · rw [q]
        rcases bcase (xs.all (withinB · 0 ((n : Int) - 1))) with z | z
        · have : xs.all intB = true := List.all_eq_true.mpr fun x hx => within_int (List.all_eq_true.mp z x hx)
          rw [this] at q
          cases q
        · rw [z]
    · rw [w, Bool.and_false, Bool.and_false]
  · rw [decide_eq_false c]
    rfl
def two3 (k : Int) : Bool := decide (k ∈ [2, 3])
theorem p_law_told {T : List (List Int)} {n : Nat} (H : Ts T n) (most : Int) (d : PyData) (h : Hep) : m__law_is_told [.dat (tD T), .dat (.int most), .dat d] h = .ok (.dat (.bool (toldB T n most d))) h := by
  unfold m__law_is_told mFun b__law_is_told
  have hn := H.hi
  have tl : fLen [.dat (tD T)] h = .ok (.dat (.int n)) h := by
    unfold tD
    rw [len_t, List.length_map, H.len]
  have in23 : ∀ (k : Int) g, dIn true (.dat (.int k)) (.dat (.tuple [.int 2, .int 3])) g = .ok (.dat (.bool (!two3 k))) g := fun k g => by
    have q := in_it (ng := true) (a := k) (l := [2, 3]) (h := g)
    simpa [two3] using q
  wp_walk using "st", tl
  cases d with
  | tuple xs =>
    wp_walk using "st", in23
    rcases len_cases xs with ⟨x, y, rfl⟩ | ⟨x, y, z, rfl⟩ | hl
    · have c1 : two3 ((2 : Nat) : Int) = true := by decide
      have c2 : ((((2 : Nat) : Int) == 2)) = true := by decide
      have i0 := fun g => (ix2 x y g).1
      have i1 := fun g => (ix2 x y g).2
      wp_walk using "st", c1, i0, toldB
      cases x with
      | str s =>
        rcases bcase (s == "relay") with q | q
        · have ro := range_order (n := n) (d := y) (by omega)
          have pr := fun g => p_law_row y n (by omega) g
          wp_walk using "st", q, c2, i0, i1, pr, strIs
          rcases bcase (rangeB n y) with qr | qr
          · wp_walk using "st", qr, i1
            cases y with
            | tuple ys =>
              have qi : ys.all intB = true := by
                simp only [rangeB, Bool.and_eq_true] at qr
                exact List.all_eq_true.mpr fun x hx => within_int (List.all_eq_true.mp qr.2 x hx)
              have e := intsOr_of qi
              have sl := fun g => sort_it (l := intsOr ys) (h := g)
              rw [← e] at sl
              have r1 := fun g => kLRg1_n (n := n) (h := g) (by omega)
              simp only [rg_map] at r1
              have nl : ∀ g, dNe (.dat (.list ((dInt.sort (intsOr ys)).map .int))) (.dat (.list ((rgI n).map .int))) g = .ok (.dat (.bool (!decide (dInt.sort (intsOr ys) = rgI n)))) g := fun g => (dLst dInt).toET.ne (by decide)
              rw [qr] at ro
              simp only [Bool.true_and] at ro
              wp_walk using "st", sl, r1, nl
              rcases bcase (decide (dInt.sort (intsOr ys) = rgI n)) with w | w
              · rw [w] at ro
                obtain ⟨r, er, R, en⟩ := order_rel ro
                rw [er] at i1 en ⊢
                have rs := fun g => p_law_sum H R g
                rw [er] at ro
                wp_walk using "st", w, i1, rs, en, ro
              · rw [w] at ro
                wp_walk using "st", w, ro
            | _ => cases qr
          · rw [qr, Bool.false_and] at ro
            wp_walk using "st", qr, ro
        · have c3 : ((((2 : Nat) : Int) == 3)) = false := by decide
          rcases bcase (s == "prices") with q2 | q2
          · wp_walk using "st", q, q2, i0, c3, strIs
          · wp_walk using "st", q, q2, i0, strIs
      | _ => wp_walk using "st", strIs
    · have c1 : two3 ((3 : Nat) : Int) = true := by decide
      have c2 : ((((3 : Nat) : Int) == 2)) = false := by decide
      have c3 : ((((3 : Nat) : Int) == 3)) = true := by decide
      have i0 := fun g => (ix3 x y z g).1
      have i1 := fun g => (ix3 x y z g).2.1
      have i2 := fun g => (ix3 x y z g).2.2
      wp_walk using "st", c1, i0, toldB
      cases x with
      | str s =>
        rcases bcase (s == "relay") with q | q
        · have q2 : (s == ("prices" : Str)) = false := by
            rw [beq_iff_eq] at q
            subst q
            decide
          wp_walk using "st", q, q2, c2, i0, strIs
        · rcases bcase (s == "prices") with q2 | q2
          · have hi1 := fun (d : PyData) g => p_law_ints d n (by omega) g
            wp_walk using "st", q, q2, i0, i1, i2, c3, strIs, hi1
            rcases bcase (intsB n y) with q3 | q3
            · rcases bcase (intsB n z) with q4 | q4
              · obtain ⟨a, rfl, la, ea⟩ := intsB_of q3
                obtain ⟨b, rfl, lb, eb⟩ := intsB_of q4
                wp_walk using "st", q3, q4, ea, eb, i2, hi1
                rw [mFor_is (h1 := h) (s := .zip (.dat (.tuple (T.map iT))) (.dat (.tuple (a.map .int)))) (xs := (T.zip a).map fun p : List Int × Int => .tuple [iT p.1, .int p.2]) (by wp_walk using "st", i1; wp_walk using "st", tD, iT) (src_z_tt iT PyData.int T a)]
                rw [forL_any (v := .dat (.bool false)) (p := dearB b) (fun p hp => ⟨_, rfl, by
                  unfold L__law_is_told_1
                  have pl := zip_ok H p hp
                  wp_walk using "st", i2
                  wp_walk using "lcx", (fun q hq g => by
                    walk_at "st"
                    exact rfl), iT
                  walk_at "st"
                  have e : (p.1.zip b).all (fun a => decide (p.2 + a.2 ≤ a.1)) = !dearB b p := by
                    unfold dearB
                    rw [List.any_eq_not_all_not, Bool.not_not]
                    congr 1
                    funext q
                    by_cases c : q.1 < p.2 + q.2
                    · rw [decide_eq_true c, decide_eq_false (by omega)]; rfl
                    · rw [decide_eq_false c, decide_eq_true (by omega)]; rfl
                  rw [e]
                  rcases bcase (dearB b p) with w | w <;> wp_walk using "st", w⟩)]
                rw [dear_iff]
                rcases bcase (priceI T a b) with w | w
                · have sa : ∀ g, fSum [.dat (iT a)] g = .ok (.dat (.int a.sum)) g := fun g => sum_t
                  have sb : ∀ g, fSum [.dat (iT b)] g = .ok (.dat (.int b.sum)) g := fun g => sum_t
                  wp_walk using "st", w, i1, i2, sa, sb
                · wp_walk using "st", w
              · wp_walk using "st", q3, q4, i2, hi1
            · wp_walk using "st", q3
          · wp_walk using "st", q, q2, i0, strIs
      | _ => wp_walk using "st", strIs
    · have c1 : two3 (xs.length : Int) = false := by
        unfold two3
        rw [decide_eq_false_iff_not]
        simp
        omega
      rw [toldB_no hl]
      wp_walk using "st", c1
  | _ =>
    walk_at "st"
    rfl
end K56
end K56v_

section K56y_
set_option linter.all false
set_option maxRecDepth 100000
open PySem PySem.Spec PyProof.Rows L2 Vi
/-! the ways "src", "lc", "lcp": a comprehension is run, its function found -/
local macro_rules
  | `(tactic| wp_walk using "st", $ts,*) => `(tactic| simp only [Vi.abs_i, Vi.add_ii, Vi.all_map, Vi.andThen_bad, Vi.andThen_bk, Vi.andThen_ct, Vi.andThen_er, Vi.andThen_nx, Vi.andThen_rt, Vi.bind_bad, Vi.bind_er, Vi.bind_ok, Vi.eq_bb, Vi.eq_ii, Vi.eq_ss, Vi.ge_ii, Vi.gt_ii, Vi.iBool_dict, Vi.iInt_dict, Vi.iLst_dict, Vi.iStr_dict, Vi.iTup_dict, Vi.int_i, Vi.isBool_bool, Vi.isBool_int, Vi.isBool_list, Vi.isBool_none, Vi.isBool_str, Vi.isBool_tuple, Vi.isInt_bool, Vi.isInt_int, Vi.isInt_list, Vi.isInt_none, Vi.isInt_str, Vi.isInt_tuple, Vi.isLst_bool, Vi.isLst_int, Vi.isLst_list, Vi.isLst_none, Vi.isLst_str, Vi.isLst_tuple, Vi.isStr_bool, Vi.isStr_int, Vi.isStr_list, Vi.isStr_none, Vi.isStr_str, Vi.isStr_tuple, Vi.isTup_bool, Vi.isTup_int, Vi.isTup_list, Vi.isTup_none, Vi.isTup_str, Vi.isTup_tuple, Vi.is_none, Vi.isi_bool, Vi.isi_int, Vi.isi_list, Vi.isi_str, Vi.isi_tl, Vi.isi_tuple, Vi.it_dat_list, Vi.it_dat_str, Vi.it_dat_tup, Vi.kCel_0, Vi.kCel_1, Vi.kCel_2, Vi.kCel_3, Vi.kCel_4, Vi.kCel_5, Vi.kCel_6, Vi.kCel_7, Vi.kCel_8, Vi.kCel_9, Vi.kCel_10, Vi.kCel_11, Vi.kCel_12, Vi.kCel_13, Vi.kCel_14, Vi.kCel_15, Vi.kCel_16, Vi.kLst_17, Vi.kLst_18, Vi.kLst_19, Vi.kLst_20, Vi.kLst_21, Vi.kLst_22, Vi.kLst_23, Vi.kLst_24, Vi.kTup_9, Vi.kTup_10, Vi.kTup_11, Vi.kTup_12, Vi.kTup_13, Vi.kEnum_l, Vi.kEnum_t, Vi.kLst_0, Vi.kLst_1, Vi.kLst_10, Vi.kLst_11, Vi.kLst_12, Vi.kLst_13, Vi.kLst_14, Vi.kLst_15, Vi.kLst_16, Vi.kLst_2, Vi.kLst_3, Vi.kLst_4, Vi.kLst_5, Vi.kLst_6, Vi.kLst_7, Vi.kLst_8, Vi.kLst_9, Vi.kTup_0, Vi.kTup_1, Vi.kTup_2, Vi.kTup_3, Vi.kTup_4, Vi.kTup_5, Vi.kTup_6, Vi.kTup_7, Vi.kTup_8, Vi.kZip_ll, Vi.kZip_lt, Vi.kZip_tl, Vi.kZip_tt, Vi.le_ii, Vi.leave_dat, Vi.leave_self, Vi.len_l, Vi.len_t, Vi.list_l, Vi.list_t, Vi.lt_ii, Vi.max_ii, Vi.min_ii, Vi.ne_bb, Vi.ne_ss, Vi.ne_ii, Vi.sl_l, Vi.sl_t, Vi.sub_ii, Vi.trim_self, Vi.tuple_l, Vi.tuple_t, Vi.turn_bad, Vi.turn_bk, Vi.turn_ct, Vi.turn_er, Vi.turn_nx, Vi.turn_rt, Vi.tyC_e, Vi.tyC_l, Vi.tyC_s, Vi.tyC_t, Vi.wipe_0, Vi.wipe_bad, Vi.wipe_bk, Vi.wipe_c, Vi.wipe_ct, Vi.wipe_er, Vi.wipe_nx, Vi.wipe_rt, Vi.x_C, Vi.x_and, Vi.x_app, Vi.x_asg, Vi.x_bin, Vi.x_brk, Vi.x_call, Vi.x_cel, Vi.x_chain, Vi.x_cnt, Vi.x_cons, Vi.x_dats0, Vi.x_datsS, Vi.x_dead, Vi.x_drop, Vi.x_frz, Vi.x_if, Vi.x_ifS, Vi.x_isE, Vi.x_isi, Vi.x_it, Vi.x_ita, Vi.x_kAnd, Vi.x_kChain, Vi.x_kNeg, Vi.x_kNot, Vi.x_kOr, Vi.x_kPar, Vi.x_kTest, Vi.x_lst, Vi.x_meth, Vi.x_neg, Vi.x_next, Vi.x_nil, Vi.x_noPart, Vi.x_not, Vi.x_ok, Vi.x_one, Vi.x_or, Vi.x_par, Vi.x_partG, Vi.kPart_i, Vi.tkM, Vi.dpM, Vi.rvM, Vi.cut_tn, Vi.cut_dn, Vi.cut_tn1, Vi.cut_dn1, Vi.cut_mapS, Vi.cut_d1, Vi.cut_t1, Vi.rev_t, Vi.rev_l, Vi.x_par, Vi.x_kPar, Vi.x_parN, Vi.kParN_0, Vi.kParN_c, List.length_map, Vi.toDat_e, Vi.tup_r, Vi.frz_r, Vi.it_r, List.mem_singleton, List.mem_cons, true_or, or_true, Vi.x_raise, Vi.x_ret, Vi.x_retN, Vi.x_rev, Vi.x_seq, Vi.x_set, Vi.x_sl, Vi.x_store, Vi.x_tAnd, Vi.x_tNot, Vi.x_tOr, Vi.x_test, Vi.x_tup, Vi.x_two, Vi.x_var0, Vi.x_varS, Vi.x_yes, Vi.st_ok', Vi.Out.st_er, Vi.Out.st_bad, Vi.kAsg, Vi.asgT, Vi.asgTs, List.set_cons_succ, List.set_cons_zero, List.map_cons, List.map_nil, List.length_cons, List.length_nil, List.replicate, List.cons_append, List.nil_append, Nat.reduceAdd, Nat.reduceSub, Int.reduceAdd, Int.reduceSub, Int.reduceMul, Int.reduceNeg, if_true, if_false, reduceIte, Bool.not_true, Bool.not_false, Bool.false_eq_true, Bool.true_and, Bool.false_and, Bool.and_true, Bool.and_false, Bool.true_or, Bool.false_or, Bool.or_true, Bool.or_false, decide_true, decide_false, beq_self_eq_true, $[$ts:term],*])
local macro_rules
  | `(tactic| walk_at "st") => `(tactic| wp_walk using "st", id_eq)
local macro_rules
  | `(tactic| walk_at "src") => `(tactic| first | exact src_tup_of _ _ | exact src_list_of _ _ | exact src_rn _ | exact src_en_l _ _ | exact src_en_t _ _ | exact src_z_ll _ _ _ _ | exact src_z_lt _ _ _ _ | exact src_z_tl _ _ _ _ | exact src_z_tt _ _ _ _ | exact src_ri _ _ | exact src_id_t _ | exact src_id_l _)
local macro_rules
  | `(tactic| walk_at "hz") => `(tactic| first | (simp only [size_is, List.length_range, List.length_map, List.length_zipIdx, List.length_zip]; omega) | (simp [size_is]; omega) | (simp [size_is]; done) | exact Nat.le_trans (List.length_filter_le _ _) (by simp [size_is]; omega))
local macro_rules
  | `(tactic| wp_walk using "ev", $ts,*) => `(tactic| first | (simp [$[$ts:term],*, -List.map_tail, -List.drop_one, -List.map_drop, -List.map_take, -List.map_reverse, -List.all_eq_true, -List.any_eq_true, -List.getD_eq_getElem?_getD]; done) | (simp [$[$ts:term],*, -List.map_tail, -List.drop_one, -List.map_drop, -List.map_take, -List.map_reverse, -List.all_eq_true, -List.any_eq_true, -List.getD_eq_getElem?_getD]; exact rfl) | (simp [$[$ts:term],*, -List.map_tail, -List.drop_one, -List.map_drop, -List.map_take, -List.map_reverse, -List.all_eq_true, -List.any_eq_true, -List.getD_eq_getElem?_getD]; exact kRng1_n (by omega)) | (simp [$[$ts:term],*, -List.map_tail, -List.drop_one, -List.map_drop, -List.map_take, -List.map_reverse, -List.all_eq_true, -List.any_eq_true, -List.getD_eq_getElem?_getD]; exact kRng1_i (by omega) (by omega)) | (simp [$[$ts:term],*, -List.map_tail, -List.drop_one, -List.map_drop, -List.map_take, -List.map_reverse, -List.all_eq_true, -List.any_eq_true, -List.getD_eq_getElem?_getD]; exact kRng2_i (by omega) (by omega) (by omega) (by omega)))
local macro_rules
  | `(tactic| wp_walk using "lc", $ts,*) => `(tactic| (
      rw [lc_y ?hi ?hs ?hz ?hx]
      (case hi => wp_walk using "ev", $ts,*)
      (case hs => walk_at "src")
      (case hz => walk_at "hz")
      (case hx => (intro a ha; refine ⟨_, rfl, fun g => ?_⟩; wp_walk using "ev", $ts,*))))
local macro_rules
  | `(tactic| wp_walk using "lcp", $ts,*) => `(tactic| (
      rw [lc_p ?hi ?hs ?hz ?ht ?hx]
      (case hi => wp_walk using "ev", $ts,*)
      (case hs => walk_at "src")
      (case hz => walk_at "hz")
      (case ht => (intro a ha; refine ⟨_, rfl, fun g => ?_⟩; wp_walk using "ev", $ts,*))
      (case hx => (intro a ha hp; refine ⟨_, rfl, fun g => ?_⟩; wp_walk using "ev", $ts,*))))
local macro_rules
  | `(tactic| wp_walk using "s", $ts,*) => `(tactic| simp [$[$ts:term],*, -List.map_tail, -List.drop_one, -List.map_drop, -List.map_take, -List.map_reverse, -List.all_eq_true, -List.any_eq_true, -List.getD_eq_getElem?_getD])
local macro_rules
  | `(tactic| walk_at "s") => `(tactic| simp [-List.map_tail, -List.drop_one, -List.map_drop, -List.map_take, -List.map_reverse, -List.all_eq_true, -List.any_eq_true, -List.getD_eq_getElem?_getD])
local macro_rules
  | `(tactic| walk_at "lc") => `(tactic| wp_walk using "lc", id_eq)
local macro_rules
  | `(tactic| walk_at "lcp") => `(tactic| wp_walk using "lcp", id_eq)
local macro_rules
  | `(tactic| wp_walk using "lcx", $t, $ts,*) => `(tactic| (
      rw [lc_yE ?hi ?hs ?hz ?hE ?hx]
      (case hi => wp_walk using "ev", $ts,*)
      (case hs => walk_at "src")
      (case hE => exact fun a ha => rfl)
      (case hx => exact $t)
      (case hz => walk_at "hz")))
local macro_rules
  | `(tactic| wp_walk using "lcpx", $u, $t, $ts,*) => `(tactic| (
      rw [lc_pE ?hi ?hs ?hz ?hE ?ht ?hx]
      (case hi => wp_walk using "ev", $ts,*)
      (case hs => walk_at "src")
      (case hE => exact fun a ha => rfl)
      (case ht => exact $u)
      (case hx => exact $t)
      (case hz => walk_at "hz")))
local macro_rules
  | `(tactic| wp_walk using "lc2", $t, $ts,*) => `(tactic| (
      rw [lc2_yE ?hi ?hs ?hE ?hi1 ?hs1 ?hE2 ?hz ?hx]
      (case hi => wp_walk using "ev", $ts,*)
      (case hs => walk_at "src")
      (case hE => exact fun a ha => rfl)
      (case hi1 => (intro a ha g; wp_walk using "ev", $ts,*))
      (case hs1 => (intro a ha; walk_at "src"))
      (case hE2 => exact fun a ha b hb => rfl)
      (case hx => exact $t)))
local macro_rules
  | `(tactic| wp_walk using "lc2p", $u, $t, $ts,*) => `(tactic| (
      rw [lc2_pE ?hi ?hs ?hE ?hi1 ?hs1 ?hE2 ?hz ?ht ?hx]
      (case hi => wp_walk using "ev", $ts,*)
      (case hs => walk_at "src")
      (case hE => exact fun a ha => rfl)
      (case hi1 => (intro a ha g; wp_walk using "ev", $ts,*))
      (case hs1 => (intro a ha; walk_at "src"))
      (case hE2 => exact fun a ha b hb => rfl)
      (case ht => exact $u)
      (case hx => exact $t)))
local macro_rules
  | `(tactic| wp_walk using "lci", $i, $t) => `(tactic| (
      rw [lc_yE ?hi ?hs ?hz ?hE ?hx]
      (case hi => exact $i)
      (case hs => walk_at "src")
      (case hE => exact fun a ha => rfl)
      (case hx => exact $t)
      (case hz => walk_at "hz")))
local macro_rules
  | `(tactic| wp_walk using "lcpi", $i, $u, $t) => `(tactic| (
      rw [lc_pE ?hi ?hs ?hz ?hE ?ht ?hx]
      (case hi => exact $i)
      (case hs => walk_at "src")
      (case hE => exact fun a ha => rfl)
      (case ht => exact $u)
      (case hx => exact $t)
      (case hz => walk_at "hz")))
/-! sums and rests -/
local macro_rules
  | `(tactic| walk_at "ar") => `(tactic| (try simp); (repeat (first | (rw [mul_r (by decide)]; simp) | (rw [mul_l (by decide)]; simp) | (rw [mod_ii (by decide)]; simp) | (rw [div_ii (by decide) (log_small (by decide) (by decide))]; simp) | (rw [pow_ii (by decide)]; simp) | (rw [mul_l (mod_small (by decide) (by decide))]; simp))))
local macro_rules
  | `(tactic| wp_walk using "lcf", $f, $t, $ts,*) => `(tactic| (
      rw [lc_yE (f := $f) ?hi ?hs ?hz ?hE ?hx]
      (case hi => wp_walk using "ev", $ts,*)
      (case hs => walk_at "src")
      (case hE => exact fun a ha => rfl)
      (case hx => exact $t)
      (case hz => walk_at "hz")))
namespace K56
open Bas
/-! # just one of both -/
theorem sum_map_sub {α : Type} {f g : α → Int} : ∀ l : List α, (l.map fun a => f a - g a).sum = (l.map f).sum - (l.map g).sum
  | [] => rfl
  | a :: l => by
    simp only [List.map_cons, List.sum_cons, sum_map_sub l]
    omega
theorem sum_map_add {α : Type} {f g : α → Int} : ∀ l : List α, (l.map fun a => f a + g a).sum = (l.map f).sum + (l.map g).sum
  | [] => rfl
  | a :: l => by
    simp only [List.map_cons, List.sum_cons, sum_map_add l]
    omega
theorem sum_map_le {α : Type} {f g : α → Int} : ∀ l : List α, (∀ a ∈ l, f a ≤ g a) → (l.map f).sum ≤ (l.map g).sum
  | [], _ => Int.le_refl _
  | a :: l, h => by
    have := sum_map_le l fun b hb => h b (List.mem_cons_of_mem _ hb)
    have := h a (List.mem_cons_self ..)
    simp only [List.map_cons, List.sum_cons]
    omega
theorem range_getD (l : List Int) : (List.range l.length).map (fun i => l.getD i 0) = l := by
  apply List.ext_getElem?
  intro i
  rw [List.getElem?_map]
  by_cases c : i < l.length
  · rw [List.getElem?_range c, List.getElem?_eq_getElem c]
    simp [List.getD_eq_getElem?_getD, c]
  · rw [List.getElem?_eq_none (by simp; omega), List.getElem?_eq_none (by omega)]
    rfl
theorem Rel.perm {n : Nat} {r : List Nat} (R : Rel n r) : r.Perm (List.range n) := nodup_perm R.len R.lt R.nd
theorem sum_legs {n : Nat} {r : List Nat} (R : Rel n r) {l : List Int} (hl : l.length = n) : (r.map fun u => l.getD u 0).sum = l.sum := by
  rw [sum_perm (R.perm.map fun u => l.getD u 0), ← hl, range_getD]
theorem zip_fst (r : List Nat) : r.zipIdx.map (fun p => p.1) = r := by simp
theorem sum_fst (r : List Nat) (g : Nat → Int) : (r.zipIdx.map fun p => g p.1).sum = (r.map g).sum := by
  conv => rhs; rw [← zip_fst r]
  rw [List.map_map]
  rfl
theorem cyc_ok {T : List (List Int)} {n : Nat} {m : Int × List Nat} (B : Best T n m) : ∀ x b, (x :: b).Nodup → (∀ u ∈ x :: b, u < n) → 0 ≤ W (wt T m.2) (x :: b ++ [x]) := by
  intro x b hn hlt
  obtain ⟨R, e1, e2⟩ := B.rel
  obtain ⟨p1, p2⟩ := round_perm (w := wt T m.2) (r := m.2) (cyc := x :: b) R.nd rfl hn (fun u hu => R.perm.mem_iff.mpr (List.mem_range.mpr (hlt u hu))) (fun u => by unfold wt; omega)
  have R2 : Rel n (m.2.map (nx (x :: b ++ [x]))) := ⟨by rw [p1.length_eq, R.len], fun u hu => R.lt u (p1.mem_iff.mp hu), p1.nodup_iff.mpr R.nd⟩
  have le := e2 _ R2
  have d : sumR T (m.2.map (nx (x :: b ++ [x]))) - sumR T m.2 = W (wt T m.2) (x :: b ++ [x]) := by
    rw [← p2, ← sum_fst]
    unfold sumR
    rw [List.zipIdx_map, List.map_map, ← sum_map_sub]
    congr 1
    refine List.map_congr_left fun p hp => ?_
    obtain ⟨_, _, h3⟩ := idx_ok R p hp
    simp only [Function.comp_apply, Prod.map, wt, h3, id_eq]
  omega
theorem legs_len {T : List (List Int)} {n : Nat} {r : List Nat} : (legsOf T n r).length = n := by unfold legsOf; rw [rounds_len]; simp
theorem rows_at {T : List (List Int)} {n : Nat} {r : List Nat} (R : Rel n r) {i : Nat} (hi : i < n) : (rowsOf T n r)[i]? = some (tm T i (r.getD i 0) - (legsOf T n r).getD (r.getD i 0) 0) := by
  have := R.len
  unfold rowsOf
  rw [List.getElem?_map, List.getElem?_zipIdx, List.getElem?_eq_getElem (show i < r.length by omega)]
  simp [List.getD_eq_getElem?_getD, show i < r.length by omega]
theorem prices_ok {T : List (List Int)} {n : Nat} (H : Ts T n) {m : Int × List Nat} (B : Best T n m) : priceI T (rowsOf T n m.2) (legsOf T n m.2) = true ∧ (rowsOf T n m.2).sum + (legsOf T n m.2).sum = m.1 := by
  obtain ⟨R, e1, e2⟩ := B.rel
  constructor
  · unfold priceI
    refine List.all_eq_true.mpr fun p hp => List.all_eq_true.mpr fun q hq => ?_
    rw [decide_eq_true_eq]
    obtain ⟨i, hi, ep⟩ := List.mem_iff_getElem.mp hp
    obtain ⟨v, hv, eq⟩ := List.mem_iff_getElem.mp hq
    have hin : i < n := by simp at hi; have := H.len; omega
    rw [List.getElem_zip] at ep
    rw [List.getElem_zip] at eq
    have hrow : p.1.length = n := zip_ok H p hp
    have hvn : v < n := by simp at hv; omega
    have e3 : p.1 = T.getD i [] := by
      rw [← ep, List.getD_eq_getElem?_getD, List.getElem?_eq_getElem (by have := H.len; omega)]
      rfl
    have e4 : p.2 = tm T i (m.2.getD i 0) - (legsOf T n m.2).getD (m.2.getD i 0) 0 := by
      have q := rows_at (T := T) R hin
      rw [List.getElem?_eq_getElem (by simp at hi; omega)] at q
      rw [← ep]
      exact Option.some.inj q
    have e5 : q.1 = tm T i v := by
      rw [← eq]
      unfold tm
      simp only
      rw [List.getD_eq_getElem?_getD, ← e3, List.getElem?_eq_getElem (by omega)]
      rfl
    have e6 : q.2 = (legsOf T n m.2).getD v 0 := by
      rw [← eq, List.getD_eq_getElem?_getD, List.getElem?_eq_getElem (by rw [legs_len]; exact hvn)]
      rfl
    have hu : m.2.getD i 0 ∈ m.2 := by
      rw [List.getD_eq_getElem?_getD, List.getElem?_eq_getElem (by have := R.len; omega)]
      exact List.getElem_mem _
    have hidx : m.2.idxOf (m.2.getD i 0) = i := by
      rw [List.getD_eq_getElem?_getD, List.getElem?_eq_getElem (by have := R.len; omega)]
      exact R.nd.idxOf_getElem i (by have := R.len; omega)
    have fx := rounds_fix (w := wt T m.2) (r := m.2) R.lt (fun u hu => R.perm.mem_iff.mpr (List.mem_range.mpr hu)) (cyc_ok B) (R.lt _ hu) hvn
    have fx : (legsOf T n m.2).getD v 0 ≤ (legsOf T n m.2).getD (m.2.getD i 0) 0 + wt T m.2 (m.2.getD i 0) v := fx
    unfold wt at fx
    rw [hidx] at fx
    omega
  · unfold rowsOf
    rw [sum_map_sub, sum_fst m.2 (fun u => (legsOf T n m.2).getD u 0), sum_legs R legs_len, e1]
    unfold sumR
    omega
/-- prices bar what they come to -/
theorem weak {T : List (List Int)} {n : Nat} (H : Ts T n) {a b : List Int} (ha : a.length = n) (hb : b.length = n) (hp : priceI T a b = true) {r : List Nat} (R : Rel n r) : a.sum + b.sum ≤ sumR T r := by
  have e1 : a.sum = (r.zipIdx.map fun p => a.getD p.2 0).sum := by
    have : r.zipIdx.map (fun p => a.getD p.2 0) = a := by
      have q : r.zipIdx.map (fun p => p.2) = List.range n := by
        rw [List.zipIdx_map_snd]
        simp [List.range_eq_range', R.len]
      rw [show (fun p : Nat × Nat => a.getD p.2 0) = (fun i => a.getD i 0) ∘ fun p => p.2 from rfl, ← List.map_map, q, ← ha, range_getD]
    rw [this]
  rw [e1, ← sum_legs R hb, ← sum_fst r (fun u => b.getD u 0), ← sum_map_add]
  unfold sumR
  refine sum_map_le _ fun p hp2 => ?_
  obtain ⟨h1, h2, _⟩ := idx_ok R p hp2
  have hT : p.2 < T.length := by rw [H.len]; exact h1
  have hz : (T[p.2], a[p.2]'(by omega)) ∈ T.zip a := List.mem_iff_getElem.mpr ⟨p.2, by simp; omega, by simp⟩
  have hrow := H.row _ (List.getElem_mem hT)
  have hz2 : (T[p.2][p.1]'(by omega), b[p.1]'(by omega)) ∈ (T[p.2]).zip b := List.mem_iff_getElem.mpr ⟨p.1, by simp; omega, by simp⟩
  have q := List.all_eq_true.mp (List.all_eq_true.mp hp _ hz) _ hz2
  rw [decide_eq_true_eq] at q
  unfold tm
  simp [List.getD_eq_getElem?_getD, hT, show p.1 < T[p.2].length by omega, show p.2 < a.length by omega, show p.1 < b.length by omega]
  exact q
/-- what relay_told tells -/
def toldOf (T : List (List Int)) (n : Nat) (m : Int × List Nat) (most : Int) : PyData := if m.1 ≤ most then .tuple [.str "relay", rowD m.2] else .tuple [.str "prices", iT (rowsOf T n m.2), iT (legsOf T n m.2)]
theorem rows_len {T : List (List Int)} {n : Nat} {r : List Nat} (R : Rel n r) : (rowsOf T n r).length = n := by
  unfold rowsOf
  simp [R.len]
theorem intsB_iT {n : Nat} {l : List Int} (h : l.length = n) : intsB n (iT l) = true ∧ intsD (iT l) = l := by
  constructor
  · simp only [intsB, iT, List.length_map, Bool.and_eq_true, decide_eq_true_eq]
    exact ⟨h, List.all_eq_true.mpr fun x hx => by obtain ⟨i, _, rfl⟩ := List.mem_map.mp hx; rfl⟩
  · exact intsOr_map l
theorem nats_row (r : List Nat) : natsOf (rowD r) = r ∧ ∀ n, Rel n r → orderB (rowD r) n = true := by
  have e : intsOr (r.map fun i : Nat => PyData.int i) = r.map fun i : Nat => (i : Int) := by
    rw [show (r.map fun i : Nat => PyData.int i) = (r.map fun i : Nat => (i : Int)).map .int by rw [List.map_map]; rfl, intsOr_map]
  constructor
  · simp only [natsOf, rowD]
    rw [e, List.map_map]
    simp [Function.comp_def]
  · intro n R
    simp only [orderB, rowD, List.length_map, Bool.and_eq_true, decide_eq_true_eq]
    refine ⟨R.len, List.all_eq_true.mpr fun x hx => (by obtain ⟨i, _, rfl⟩ := List.mem_map.mp hx; rfl), ?_⟩
    rw [e]
    refine dInt.sort_uniq (l := rgI n) ?_ ?_
    · unfold rgI
      exact (R.perm.map fun i : Nat => (i : Int)).symm
    · unfold rgI
      rw [List.pairwise_map]
      refine List.Pairwise.imp ?_ (List.pairwise_lt_range (n := n))
      intro a b h
      simp [DT.le]
      omega
theorem told_ok {T : List (List Int)} {n : Nat} (H : Ts T n) {m : Int × List Nat} (B : Best T n m) (most : Int) : toldB T n most (toldOf T n m most) = true := by
  obtain ⟨R, e1, _⟩ := B.rel
  obtain ⟨p1, p2⟩ := prices_ok H B
  unfold toldOf
  split
  · rename_i h
    obtain ⟨n1, n2⟩ := nats_row m.2
    simp only [toldB, strIs, n1, n2 n R, ← e1, decide_eq_true h]
    rfl
  · rename_i h
    obtain ⟨a1, a2⟩ := intsB_iT (rows_len (T := T) R)
    obtain ⟨b1, b2⟩ := intsB_iT (legs_len (T := T) (n := n) (r := m.2))
    simp only [toldB, strIs, a1, a2, b1, b2, p1, p2, decide_eq_true (show most < m.1 by omega)]
    rfl
def headIs (d : PyData) (s : Str) : Prop := ∃ r, d = .tuple (.str s :: r)
theorem told_one {T : List (List Int)} {n : Nat} (H : Ts T n) {m : Int × List Nat} (B : Best T n m) {most : Int} {d : PyData} (h : toldB T n most d = true) : ∃ s, headIs d s ∧ headIs (toldOf T n m most) s := by
  obtain ⟨R, e1, e2⟩ := B.rel
  cases d with
  | tuple xs =>
    rcases len_cases xs with ⟨x, y, rfl⟩ | ⟨x, y, z, rfl⟩ | hl
    · simp only [toldB, Bool.and_eq_true, decide_eq_true_eq] at h
      obtain ⟨h1, h2, h3⟩ := h
      cases x <;> simp only [strIs, Bool.false_eq_true] at h1
      rw [beq_iff_eq] at h1
      subst h1
      obtain ⟨r, rfl, R2, en⟩ := order_rel h2
      rw [en] at h3
      have := e2 r R2
      refine ⟨"relay", ⟨_, rfl⟩, ?_⟩
      unfold toldOf
      rw [if_pos (by omega)]
      exact ⟨_, rfl⟩
    · simp only [toldB, Bool.and_eq_true, decide_eq_true_eq] at h
      obtain ⟨h1, ⟨h2, h3⟩, h4, h5⟩ := h
      cases x <;> simp only [strIs, Bool.false_eq_true] at h1
      rw [beq_iff_eq] at h1
      subst h1
      obtain ⟨a, rfl, la, ea⟩ := intsB_of h2
      obtain ⟨b, rfl, lb, eb⟩ := intsB_of h3
      rw [ea, eb] at h4 h5
      have := weak H la lb h4 R
      refine ⟨"prices", ⟨_, rfl⟩, ?_⟩
      unfold toldOf
      rw [if_neg (by omega)]
      exact ⟨_, rfl⟩
    · rw [toldB_no hl] at h
      cases h
  | _ => cases h
theorem p_relay_told {T : List (List Int)} {n : Nat} (H : Ts T n) : ∃ m, Best T n m ∧ (∀ h, m_best_relay [.dat (tD T)] h = .ok (.dat (relD m)) h) ∧ (∀ most : Int, 0 ≤ most → ∀ h, m_relay_told [.dat (tD T), .dat (.int most)] h = .ok (.dat (toldOf T n m most)) h) ∧ ∀ h, fMin [.dat (.list ((allO n).map fun r => .tuple [.int (sumR T r), rowD r]))] h = .ok (.dat (relD m)) h := by
  obtain ⟨m, B, e1, e2⟩ := p_raw_best H
  have hn := H.hi
  have hs2 : short2 (tD T) = true := by
    simp only [short2, tD, List.length_map, Bool.and_eq_true, decide_eq_true_eq]
    refine ⟨by rw [H.len]; omega, List.all_eq_true.mpr fun x hx => ?_⟩
    obtain ⟨r, hr, rfl⟩ := List.mem_map.mp hx
    simp only [shortB, iT, List.length_map, decide_eq_true_eq]
    rw [H.row r hr]
    omega
  refine ⟨m, B, fun h => ?_, fun most hm h => ?_, e2⟩
  · have c1 := p_check_times (tD T) hs2 h
    rw [H.times] at c1
    simp only [if_true] at c1
    unfold m_best_relay mFun b_best_relay
    wp_walk using "st", c1, e1
  · have c1 := p_check_most (tD T) (.int most) hs2 h
    rw [H.times] at c1
    simp only [numB, decide_eq_true hm, if_true] at c1
    have pb := fun g => p_prices_by H B.rel.1 g
    have ad : ∀ (xs ys : List PyData) g, xs.length + ys.length ≤ 10 → dAdd (.dat (.tuple xs)) (.dat (.tuple ys)) g = .ok (.dat (.tuple (xs ++ ys))) g := fun xs ys g hz => add_tt (by rw [size_is]; omega)
    have ad1 := fun g => ad [.str "prices"] [iT (rowsOf T n m.2), iT (legsOf T n m.2)] g (by simp)
    have as1 : asgT (.tup [.nm 2, .nm 3]) (.dat (relD m)) [some (.dat (tD T)), some (.dat (.int most)), none, none] = some [some (.dat (tD T)), some (.dat (.int most)), some (.dat (.int m.1)), some (.dat (rowD m.2))] := rfl
    unfold m_relay_told mFun b_relay_told toldOf
    wp_walk using "st", c1, e1, relD, c_RELAY, c_PRICES
    by_cases c : m.1 ≤ most
    · wp_walk using "st", decide_eq_true c, if_pos c
    · wp_walk using "st", decide_eq_false c, if_neg c, pb, ad1
end K56
end K56y_

section K56z_
set_option linter.all false
set_option maxRecDepth 100000
open PySem PySem.Spec PyProof.Rows L2 Vi
/-! the ways "src", "lc", "lcp": a comprehension is run, its function found -/
local macro_rules
  | `(tactic| wp_walk using "st", $ts,*) => `(tactic| simp only [Vi.abs_i, Vi.add_ii, Vi.all_map, Vi.andThen_bad, Vi.andThen_bk, Vi.andThen_ct, Vi.andThen_er, Vi.andThen_nx, Vi.andThen_rt, Vi.bind_bad, Vi.bind_er, Vi.bind_ok, Vi.eq_bb, Vi.eq_ii, Vi.eq_ss, Vi.ge_ii, Vi.gt_ii, Vi.iBool_dict, Vi.iInt_dict, Vi.iLst_dict, Vi.iStr_dict, Vi.iTup_dict, Vi.int_i, Vi.isBool_bool, Vi.isBool_int, Vi.isBool_list, Vi.isBool_none, Vi.isBool_str, Vi.isBool_tuple, Vi.isInt_bool, Vi.isInt_int, Vi.isInt_list, Vi.isInt_none, Vi.isInt_str, Vi.isInt_tuple, Vi.isLst_bool, Vi.isLst_int, Vi.isLst_list, Vi.isLst_none, Vi.isLst_str, Vi.isLst_tuple, Vi.isStr_bool, Vi.isStr_int, Vi.isStr_list, Vi.isStr_none, Vi.isStr_str, Vi.isStr_tuple, Vi.isTup_bool, Vi.isTup_int, Vi.isTup_list, Vi.isTup_none, Vi.isTup_str, Vi.isTup_tuple, Vi.is_none, Vi.isi_bool, Vi.isi_int, Vi.isi_list, Vi.isi_str, Vi.isi_tl, Vi.isi_tuple, Vi.it_dat_list, Vi.it_dat_str, Vi.it_dat_tup, Vi.kCel_0, Vi.kCel_1, Vi.kCel_2, Vi.kCel_3, Vi.kCel_4, Vi.kCel_5, Vi.kCel_6, Vi.kCel_7, Vi.kCel_8, Vi.kCel_9, Vi.kCel_10, Vi.kCel_11, Vi.kCel_12, Vi.kCel_13, Vi.kCel_14, Vi.kCel_15, Vi.kCel_16, Vi.kLst_17, Vi.kLst_18, Vi.kLst_19, Vi.kLst_20, Vi.kLst_21, Vi.kLst_22, Vi.kLst_23, Vi.kLst_24, Vi.kTup_9, Vi.kTup_10, Vi.kTup_11, Vi.kTup_12, Vi.kTup_13, Vi.kEnum_l, Vi.kEnum_t, Vi.kLst_0, Vi.kLst_1, Vi.kLst_10, Vi.kLst_11, Vi.kLst_12, Vi.kLst_13, Vi.kLst_14, Vi.kLst_15, Vi.kLst_16, Vi.kLst_2, Vi.kLst_3, Vi.kLst_4, Vi.kLst_5, Vi.kLst_6, Vi.kLst_7, Vi.kLst_8, Vi.kLst_9, Vi.kTup_0, Vi.kTup_1, Vi.kTup_2, Vi.kTup_3, Vi.kTup_4, Vi.kTup_5, Vi.kTup_6, Vi.kTup_7, Vi.kTup_8, Vi.kZip_ll, Vi.kZip_lt, Vi.kZip_tl, Vi.kZip_tt, Vi.le_ii, Vi.leave_dat, Vi.leave_self, Vi.len_l, Vi.len_t, Vi.list_l, Vi.list_t, Vi.lt_ii, Vi.max_ii, Vi.min_ii, Vi.ne_bb, Vi.ne_ss, Vi.ne_ii, Vi.sl_l, Vi.sl_t, Vi.sub_ii, Vi.trim_self, Vi.tuple_l, Vi.tuple_t, Vi.turn_bad, Vi.turn_bk, Vi.turn_ct, Vi.turn_er, Vi.turn_nx, Vi.turn_rt, Vi.tyC_e, Vi.tyC_l, Vi.tyC_s, Vi.tyC_t, Vi.wipe_0, Vi.wipe_bad, Vi.wipe_bk, Vi.wipe_c, Vi.wipe_ct, Vi.wipe_er, Vi.wipe_nx, Vi.wipe_rt, Vi.x_C, Vi.x_and, Vi.x_app, Vi.x_asg, Vi.x_bin, Vi.x_brk, Vi.x_call, Vi.x_cel, Vi.x_chain, Vi.x_cnt, Vi.x_cons, Vi.x_dats0, Vi.x_datsS, Vi.x_dead, Vi.x_drop, Vi.x_frz, Vi.x_if, Vi.x_ifS, Vi.x_isE, Vi.x_isi, Vi.x_it, Vi.x_ita, Vi.x_kAnd, Vi.x_kChain, Vi.x_kNeg, Vi.x_kNot, Vi.x_kOr, Vi.x_kPar, Vi.x_kTest, Vi.x_lst, Vi.x_meth, Vi.x_neg, Vi.x_next, Vi.x_nil, Vi.x_noPart, Vi.x_not, Vi.x_ok, Vi.x_one, Vi.x_or, Vi.x_par, Vi.x_partG, Vi.kPart_i, Vi.tkM, Vi.dpM, Vi.rvM, Vi.cut_tn, Vi.cut_dn, Vi.cut_tn1, Vi.cut_dn1, Vi.cut_mapS, Vi.cut_d1, Vi.cut_t1, Vi.rev_t, Vi.rev_l, Vi.x_par, Vi.x_kPar, Vi.x_parN, Vi.kParN_0, Vi.kParN_c, List.length_map, Vi.toDat_e, Vi.tup_r, Vi.frz_r, Vi.it_r, List.mem_singleton, List.mem_cons, true_or, or_true, Vi.x_raise, Vi.x_ret, Vi.x_retN, Vi.x_rev, Vi.x_seq, Vi.x_set, Vi.x_sl, Vi.x_store, Vi.x_tAnd, Vi.x_tNot, Vi.x_tOr, Vi.x_test, Vi.x_tup, Vi.x_two, Vi.x_var0, Vi.x_varS, Vi.x_yes, Vi.st_ok', Vi.Out.st_er, Vi.Out.st_bad, Vi.kAsg, Vi.asgT, Vi.asgTs, List.set_cons_succ, List.set_cons_zero, List.map_cons, List.map_nil, List.length_cons, List.length_nil, List.replicate, List.cons_append, List.nil_append, Nat.reduceAdd, Nat.reduceSub, Int.reduceAdd, Int.reduceSub, Int.reduceMul, Int.reduceNeg, if_true, if_false, reduceIte, Bool.not_true, Bool.not_false, Bool.false_eq_true, Bool.true_and, Bool.false_and, Bool.and_true, Bool.and_false, Bool.true_or, Bool.false_or, Bool.or_true, Bool.or_false, decide_true, decide_false, beq_self_eq_true, $[$ts:term],*])
local macro_rules
  | `(tactic| walk_at "st") => `(tactic| wp_walk using "st", id_eq)
local macro_rules
  | `(tactic| walk_at "src") => `(tactic| first | exact src_tup_of _ _ | exact src_list_of _ _ | exact src_rn _ | exact src_en_l _ _ | exact src_en_t _ _ | exact src_z_ll _ _ _ _ | exact src_z_lt _ _ _ _ | exact src_z_tl _ _ _ _ | exact src_z_tt _ _ _ _ | exact src_ri _ _ | exact src_id_t _ | exact src_id_l _)
local macro_rules
  | `(tactic| walk_at "hz") => `(tactic| first | (simp only [size_is, List.length_range, List.length_map, List.length_zipIdx, List.length_zip]; omega) | (simp [size_is]; omega) | (simp [size_is]; done) | exact Nat.le_trans (List.length_filter_le _ _) (by simp [size_is]; omega))
local macro_rules
  | `(tactic| wp_walk using "ev", $ts,*) => `(tactic| first | (simp [$[$ts:term],*, -List.map_tail, -List.drop_one, -List.map_drop, -List.map_take, -List.map_reverse, -List.all_eq_true, -List.any_eq_true, -List.getD_eq_getElem?_getD]; done) | (simp [$[$ts:term],*, -List.map_tail, -List.drop_one, -List.map_drop, -List.map_take, -List.map_reverse, -List.all_eq_true, -List.any_eq_true, -List.getD_eq_getElem?_getD]; exact rfl) | (simp [$[$ts:term],*, -List.map_tail, -List.drop_one, -List.map_drop, -List.map_take, -List.map_reverse, -List.all_eq_true, -List.any_eq_true, -List.getD_eq_getElem?_getD]; exact kRng1_n (by omega)) | (simp [$[$ts:term],*, -List.map_tail, -List.drop_one, -List.map_drop, -List.map_take, -List.map_reverse, -List.all_eq_true, -List.any_eq_true, -List.getD_eq_getElem?_getD]; exact kRng1_i (by omega) (by omega)) | (simp [$[$ts:term],*, -List.map_tail, -List.drop_one, -List.map_drop, -List.map_take, -List.map_reverse, -List.all_eq_true, -List.any_eq_true, -List.getD_eq_getElem?_getD]; exact kRng2_i (by omega) (by omega) (by omega) (by omega)))
local macro_rules
  | `(tactic| wp_walk using "lc", $ts,*) => `(tactic| (
      rw [lc_y ?hi ?hs ?hz ?hx]
      (case hi => wp_walk using "ev", $ts,*)
      (case hs => walk_at "src")
      (case hz => walk_at "hz")
      (case hx => (intro a ha; refine ⟨_, rfl, fun g => ?_⟩; wp_walk using "ev", $ts,*))))
local macro_rules
  | `(tactic| wp_walk using "lcp", $ts,*) => `(tactic| (
      rw [lc_p ?hi ?hs ?hz ?ht ?hx]
      (case hi => wp_walk using "ev", $ts,*)
      (case hs => walk_at "src")
      (case hz => walk_at "hz")
      (case ht => (intro a ha; refine ⟨_, rfl, fun g => ?_⟩; wp_walk using "ev", $ts,*))
      (case hx => (intro a ha hp; refine ⟨_, rfl, fun g => ?_⟩; wp_walk using "ev", $ts,*))))
local macro_rules
  | `(tactic| wp_walk using "s", $ts,*) => `(tactic| simp [$[$ts:term],*, -List.map_tail, -List.drop_one, -List.map_drop, -List.map_take, -List.map_reverse, -List.all_eq_true, -List.any_eq_true, -List.getD_eq_getElem?_getD])
local macro_rules
  | `(tactic| walk_at "s") => `(tactic| simp [-List.map_tail, -List.drop_one, -List.map_drop, -List.map_take, -List.map_reverse, -List.all_eq_true, -List.any_eq_true, -List.getD_eq_getElem?_getD])
local macro_rules
  | `(tactic| walk_at "lc") => `(tactic| wp_walk using "lc", id_eq)
local macro_rules
  | `(tactic| walk_at "lcp") => `(tactic| wp_walk using "lcp", id_eq)
local macro_rules
  | `(tactic| wp_walk using "lcx", $t, $ts,*) => `(tactic| (
      rw [lc_yE ?hi ?hs ?hz ?hE ?hx]
      (case hi => wp_walk using "ev", $ts,*)
      (case hs => walk_at "src")
      (case hE => exact fun a ha => rfl)
      (case hx => exact $t)
      (case hz => walk_at "hz")))
local macro_rules
  | `(tactic| wp_walk using "lcpx", $u, $t, $ts,*) => `(tactic| (
      rw [lc_pE ?hi ?hs ?hz ?hE ?ht ?hx]
      (case hi => wp_walk using "ev", $ts,*)
      (case hs => walk_at "src")
      (case hE => exact fun a ha => rfl)
      (case ht => exact $u)
      (case hx => exact $t)
      (case hz => walk_at "hz")))
local macro_rules
  | `(tactic| wp_walk using "lc2", $t, $ts,*) => `(tactic| (
      rw [lc2_yE ?hi ?hs ?hE ?hi1 ?hs1 ?hE2 ?hz ?hx]
      (case hi => wp_walk using "ev", $ts,*)
      (case hs => walk_at "src")
      (case hE => exact fun a ha => rfl)
      (case hi1 => (intro a ha g; wp_walk using "ev", $ts,*))
      (case hs1 => (intro a ha; walk_at "src"))
      (case hE2 => exact fun a ha b hb => rfl)
      (case hx => exact $t)))
local macro_rules
  | `(tactic| wp_walk using "lc2p", $u, $t, $ts,*) => `(tactic| (
      rw [lc2_pE ?hi ?hs ?hE ?hi1 ?hs1 ?hE2 ?hz ?ht ?hx]
      (case hi => wp_walk using "ev", $ts,*)
      (case hs => walk_at "src")
      (case hE => exact fun a ha => rfl)
      (case hi1 => (intro a ha g; wp_walk using "ev", $ts,*))
      (case hs1 => (intro a ha; walk_at "src"))
      (case hE2 => exact fun a ha b hb => rfl)
      (case ht => exact $u)
      (case hx => exact $t)))
local macro_rules
  | `(tactic| wp_walk using "lci", $i, $t) => `(tactic| (
      rw [lc_yE ?hi ?hs ?hz ?hE ?hx]
      (case hi => exact $i)
      (case hs => walk_at "src")
      (case hE => exact fun a ha => rfl)
      (case hx => exact $t)
      (case hz => walk_at "hz")))
local macro_rules
  | `(tactic| wp_walk using "lcpi", $i, $u, $t) => `(tactic| (
      rw [lc_pE ?hi ?hs ?hz ?hE ?ht ?hx]
      (case hi => exact $i)
      (case hs => walk_at "src")
      (case hE => exact fun a ha => rfl)
      (case ht => exact $u)
      (case hx => exact $t)
      (case hz => walk_at "hz")))
/-! sums and rests -/
local macro_rules
  | `(tactic| walk_at "ar") => `(tactic| (try simp); (repeat (first | (rw [mul_r (by decide)]; simp) | (rw [mul_l (by decide)]; simp) | (rw [mod_ii (by decide)]; simp) | (rw [div_ii (by decide) (log_small (by decide) (by decide))]; simp) | (rw [pow_ii (by decide)]; simp) | (rw [mul_l (mod_small (by decide) (by decide))]; simp))))
local macro_rules
  | `(tactic| wp_walk using "lcf", $f, $t, $ts,*) => `(tactic| (
      rw [lc_yE (f := $f) ?hi ?hs ?hz ?hE ?hx]
      (case hi => wp_walk using "ev", $ts,*)
      (case hs => walk_at "src")
      (case hE => exact fun a ha => rfl)
      (case hx => exact $t)
      (case hz => walk_at "hz")))
namespace K56
open Bas
/-! # things near what is told -/
theorem cel1 {T : List (List Int)} {n : Nat} (H : Ts T n) : ∀ r ∈ T, r ≠ [] := fun r hr z => by
  have := H.row r hr
  have := H.lo
  subst z
  simp at this
  omega
theorem things_more {T : List (List Int)} {n : Nat} (hn1 : 1 ≤ n) (hn : n ≤ 6) {a b : List Int} (ha : a.length = n) (hb : b.length = n) (odd : PyData) (o3 o4 : Option Val) {c : Cell} {cs ds : Hep} {k : Nat} {L : List PyData} (e : ds[k]? = some (.lst L)) (hL : L.length ≤ 1000) (hc : Hd c) (hf : Flat (cs ++ ds)) :
    ∃ (c' : Cell) (L' : List PyData), Hd c' ∧ I__law_things_1 [some (.ref 0), some (.dat (tD T)), some (.dat (.tuple [.str "prices", iT a, iT b])), o3, o4, some (.ref (cs.length + (k + 1))), some (.dat (.int n)), some (.dat odd), none, none, none, none, none] (c :: (cs ++ ds)) =
      .nx [some (.ref 0), some (.dat (tD T)), some (.dat (.tuple [.str "prices", iT a, iT b])), o3, o4, some (.ref (cs.length + (ds.length + 1))), some (.dat (.int n)), some (.dat odd), none, none, none, none, none] (c' :: (cs ++ (ds ++ [.lst L']))) := by
  obtain ⟨i, c4, d4, hc4, hi⟩ := draw1 (m := n) (by omega) (by omega) hc hf
  have hi' : i < n := by omega
  have j0 := fun g => (ix3 (.str "prices") (iT a) (iT b) g).1
  have j1 := fun g => (ix3 (.str "prices") (iT a) (iT b) g).2.1
  have j2 := fun g => (ix3 (.str "prices") (iT a) (iT b) g).2.2
  have sp : (("prices" : Str) == "prices") = true := by decide
  have la : ∀ g, fList [.dat (iT a)] g = .ok (.dat (.list (a.map .int))) g := fun g => rfl
  have s1 : ∀ g, kSl (.dat (iT b)) (some 1) none g = .ok (.dat (iT (b.drop 1))) g := fun g => by
    unfold iT
    rw [sl_t, cut_d1, dpM]
  have s2 : ∀ g, kSl (.dat (iT a)) none (some (i : Int)) g = .ok (.dat (iT (a.take i))) g := fun g => by
    unfold iT
    rw [sl_t, cut_tn, tkM]
  have s3 : ∀ g, kSl (.dat (iT a)) (some ((i : Int) + 1)) none g = .ok (.dat (iT (a.drop (i + 1)))) g := fun g => by
    unfold iT
    rw [sl_t, cut_dn1, dpM]
  have x1 : ∀ g, dIx (.dat (iT a)) (.dat (.int i)) g = .ok (.dat (.int (a.getD i 0))) g := fun g => ix_tm (inj := PyData.int) (get_d (l := a) (by omega))
  have A0 : ∀ (d : PyData) g, dAdd (.dat (iT (a.take i))) (.dat (.tuple [d])) g = .ok (.dat (.tuple ((a.take i).map .int ++ [d]))) g := fun d g => add_tt (by simp [size_is]; omega)
  have B0 : ∀ (d : PyData) g, dAdd (.dat (.tuple ((a.take i).map .int ++ [d]))) (.dat (iT (a.drop (i + 1)))) g = .ok (.dat (.tuple ((a.take i).map .int ++ [d] ++ (a.drop (i + 1)).map .int))) g := fun d g => add_tt (by simp [size_is]; omega)
  unfold I__law_things_1
  wp_walk using "st", j0, sp, d4, j1, j2, la, s1
  rw [addC_k e (by simp; omega)]
  generalize hX : [PyData.tuple [PyData.str "prices", iT b, iT a], PyData.tuple [PyData.str "prices", .list (a.map .int), iT b], PyData.tuple [PyData.str "prices", iT a, iT (b.drop 1)]] = X
  have lX : X.length = 3 := by rw [← hX]; rfl
  have at0 : ∀ Y : List PyData, (ds ++ [Cell.lst Y])[ds.length]? = some (.lst Y) := fun Y => by simp
  have st0 : ∀ Y Z : List PyData, (ds ++ [Cell.lst Y]).set ds.length (.lst Z) = ds ++ [Cell.lst Z] := fun Y Z => by simp [List.set_append_right]
  have ty := fun (c : Cell) (Y : List PyData) => ty_k (c := c) (cs := cs) (at0 Y)
  have ap := fun (c : Cell) (Y : List PyData) (d : PyData) (hz : Y.length < 5000) => app_k (c := c) (cs := cs) (d := d) (at0 Y) (by omega)
  simp only [st0] at ap
  wp_walk using "st", ty, s2, s3, x1, A0, B0
  rw [ap _ _ _ (by simp; omega)]
  wp_walk using "st", ty, s2, s3, x1, A0, B0
  rw [ap _ _ _ (by simp; omega)]
  wp_walk using "st", ty
  wp_walk using "lcx", (fun q hq g => by
    walk_at "st"
    exact rfl), iT
  walk_at "st"
  wp_walk using "lcx", (fun q hq g => by
    walk_at "st"
    exact rfl), iT
  walk_at "st"
  rw [ap _ _ _ (by simp; omega)]
  wp_walk using "st", ty, s2, s3, x1, A0, B0
  rw [ap _ _ _ (by simp; omega)]
  walk_at "st"
  exact ⟨_, _, hc4, rfl⟩
theorem p_things {T : List (List Int)} {n : Nat} (H : Ts T n) {m : Int × List Nat} (B : Best T n m) (most : Int) {c : Cell} {cs : Hep} (hc : Hd c) (hf : Flat cs) : ∃ xs c', m__law_things [.ref 0, .dat (tD T), .dat (toldOf T n m most)] (c :: cs) = .ok (.dat (.list xs)) (c' :: cs) ∧ Hd c' := by
  have hn := H.hi
  have hn1 := H.lo
  have hlen := H.len
  obtain ⟨R, _, _⟩ := B.rel
  have tl : ∀ g, fLen [.dat (tD T)] g = .ok (.dat (.int n)) g := fun g => by
    unfold tD
    rw [len_t, List.length_map, H.len]
  obtain ⟨odd, c1, d1, hc1, _⟩ := some_of (xs := [.none, .bool true, .str "?", .int (-1), .int 6, .tuple [.int 0]]) (by simp) (by simp) hc hf
  have po := fun g => p_law_orders n (by omega) g
  have ol := allO_len (n := n) (by omega)
  obtain ⟨oo, c2, d2, hc2, hoo⟩ := some_of (xs := (allO n).map rowD) (fun z => allO_ne n (List.map_eq_nil_iff.mp z)) (by simp; omega) hc1 hf
  obtain ⟨ord, hord, rfl⟩ := List.mem_map.mp hoo
  have RO := rel_all.mp hord
  have ro := RO.len
  obtain ⟨f, hf3⟩ := ac (P := fun (L : List PyData) (p : PyData × Cell) => m__law_deep [.ref 0] (c2 :: (cs ++ [.lst L])) = .ok (.dat p.1) (p.2 :: (cs ++ [.lst L])) ∧ Hd p.2) (fun L => by
    obtain ⟨w, c3, d3, hc3, hw⟩ := deep hc2 (flat_a (xs := L) hf)
    exact ⟨(w, c3), d3, hc3⟩)
  have d3 := fun L => (hf3 L).1
  have ad : ∀ (xs ys : List PyData), xs.length ≤ 100 → ys.length ≤ 100 → ∀ g, dAdd (.dat (.tuple xs)) (.dat (.tuple ys)) g = .ok (.dat (.tuple (xs ++ ys))) g := fun xs ys h1 h2 g => add_tt (by rw [size_is]; omega)
  have r0 : ∀ (k : Int) g, dMul (.dat (.tuple [.int k])) (.dat (.int n)) g = .ok (.dat (.tuple ((List.replicate n k).map .int))) g := fun k g => rep_t (f := PyData.int) (a := k) (k := n) hn1 (by omega)
  have a1 := ad (ord.map fun i : Nat => .int i) [odd] (by simp; omega) (by simp)
  have a2 := ad [odd] ((ord.drop 1).map fun i : Nat => .int i) (by simp) (by simp; omega)
  unfold m__law_things mFun b__law_things
  wp_walk using "st", tl, d1, po, d2
  wp_walk using "lcx", (fun r hr g => by
    wp_walk using "st", iT, min_tI (cel1 H r hr)
    exact rfl), tD
  generalize hr : (PyData.list (T.map fun a => PyData.int (minI a))) = rows0
  have ru : ∃ rr, ∀ g, fTuple [.dat rows0] g = .ok (.dat (.tuple rr)) g := ⟨T.map fun a => PyData.int (minI a), fun g => by rw [← hr]; exact tuple_l⟩
  obtain ⟨rr, ru⟩ := ru
  wp_walk using "st", ru
  have lr : ∀ g, fList [.dat (rowD ord)] g = .ok (.dat (.list (ord.map fun i : Nat => .int i))) g := fun g => rfl
  have sl1 : ∀ g, kSl (.dat (rowD ord)) (some 1) none g = .ok (.dat (.tuple ((ord.drop 1).map fun i : Nat => .int i))) g := fun g => by
    unfold rowD
    rw [sl_t, cut_d1, dpM]
  have b1 : ∀ g, dAdd (.dat (rowD ord)) (.dat (.tuple [odd])) g = .ok (.dat (.tuple ((ord.map fun i : Nat => .int i) ++ [odd]))) g := a1
  unfold toldOf
  by_cases cm : m.1 ≤ most
  · rw [if_pos cm]
    have a3 := ad [.str "relay", rowD m.2] [.int 0] (by simp) (by simp)
    wp_walk using "st", lr, sl1, a2, a3, b1, r0, d3
    rw [addC_k (k := 0) rfl (by simp)]
    wp_walk using "st", r0
    rw [addC_k (k := 1) rfl (by simp)]
    wp_walk using "st", I__law_things_1, (show (("relay" : Str) == "prices") = false by decide), ix2
    rw [frz_k (k := 2) rfl]
    walk_at "st"
    generalize hp : f _ = p
    have hp2 : Hd p.2 := by rw [← hp]; exact (hf3 _).2
    refine ⟨_, p.2, leave_dr hp2 hf, hp2⟩
  · rw [if_neg cm]
    have a3 := ad [.str "prices", iT (rowsOf T n m.2), iT (legsOf T n m.2)] [.int 0] (by simp) (by simp)
    wp_walk using "st", lr, sl1, a2, a3, b1, r0, d3
    rw [addC_k (k := 0) rfl (by simp)]
    wp_walk using "st", r0
    rw [addC_k (k := 1) rfl (by simp)]
    walk_at "st"
    generalize hp : f _ = p
    have hp2 : Hd p.2 := by rw [← hp]; exact (hf3 _).2
    generalize hA : Cell.lst _ = A
    generalize hB : Cell.lst _ = B
    generalize hC : Cell.lst _ = C
    obtain ⟨c4, L', hc4, e4⟩ := things_more (T := T) hn1 hn (rows_len (T := T) R) (legs_len (T := T) (n := n) (r := m.2)) odd (some (.dat (rowD ord))) (some (.dat (.tuple rr))) (c := p.2) (cs := cs) (ds := [A, B, C]) (k := 2) (by rw [← hC]; rfl) (by simp) hp2 (flat_x hf (by rw [← hA, ← hB, ← hC]; exact flat_l (flat_l (flat_l flat_0))))
    simp only [List.length_cons, List.length_nil, Nat.reduceAdd, List.cons_append, List.nil_append] at e4
    wp_walk using "st", e4
    rw [frz_k (k := 3) rfl]
    walk_at "st"
    exact ⟨_, c4, leave_dr hc4 hf, hc4⟩
end K56
end K56z_

section K56aa_
set_option linter.all false
set_option maxRecDepth 100000
open PySem PySem.Spec PyProof.Rows L2 Vi
/-! the ways "src", "lc", "lcp": a comprehension is run, its function found -/
local macro_rules
  | `(tactic| wp_walk using "st", $ts,*) => `(tactic| simp only [Vi.abs_i, Vi.add_ii, Vi.all_map, Vi.andThen_bad, Vi.andThen_bk, Vi.andThen_ct, Vi.andThen_er, Vi.andThen_nx, Vi.andThen_rt, Vi.bind_bad, Vi.bind_er, Vi.bind_ok, Vi.eq_bb, Vi.eq_ii, Vi.eq_ss, Vi.ge_ii, Vi.gt_ii, Vi.iBool_dict, Vi.iInt_dict, Vi.iLst_dict, Vi.iStr_dict, Vi.iTup_dict, Vi.int_i, Vi.isBool_bool, Vi.isBool_int, Vi.isBool_list, Vi.isBool_none, Vi.isBool_str, Vi.isBool_tuple, Vi.isInt_bool, Vi.isInt_int, Vi.isInt_list, Vi.isInt_none, Vi.isInt_str, Vi.isInt_tuple, Vi.isLst_bool, Vi.isLst_int, Vi.isLst_list, Vi.isLst_none, Vi.isLst_str, Vi.isLst_tuple, Vi.isStr_bool, Vi.isStr_int, Vi.isStr_list, Vi.isStr_none, Vi.isStr_str, Vi.isStr_tuple, Vi.isTup_bool, Vi.isTup_int, Vi.isTup_list, Vi.isTup_none, Vi.isTup_str, Vi.isTup_tuple, Vi.is_none, Vi.isi_bool, Vi.isi_int, Vi.isi_list, Vi.isi_str, Vi.isi_tl, Vi.isi_tuple, Vi.it_dat_list, Vi.it_dat_str, Vi.it_dat_tup, Vi.kCel_0, Vi.kCel_1, Vi.kCel_2, Vi.kCel_3, Vi.kCel_4, Vi.kCel_5, Vi.kCel_6, Vi.kCel_7, Vi.kCel_8, Vi.kCel_9, Vi.kCel_10, Vi.kCel_11, Vi.kCel_12, Vi.kCel_13, Vi.kCel_14, Vi.kCel_15, Vi.kCel_16, Vi.kLst_17, Vi.kLst_18, Vi.kLst_19, Vi.kLst_20, Vi.kLst_21, Vi.kLst_22, Vi.kLst_23, Vi.kLst_24, Vi.kTup_9, Vi.kTup_10, Vi.kTup_11, Vi.kTup_12, Vi.kTup_13, Vi.kEnum_l, Vi.kEnum_t, Vi.kLst_0, Vi.kLst_1, Vi.kLst_10, Vi.kLst_11, Vi.kLst_12, Vi.kLst_13, Vi.kLst_14, Vi.kLst_15, Vi.kLst_16, Vi.kLst_2, Vi.kLst_3, Vi.kLst_4, Vi.kLst_5, Vi.kLst_6, Vi.kLst_7, Vi.kLst_8, Vi.kLst_9, Vi.kTup_0, Vi.kTup_1, Vi.kTup_2, Vi.kTup_3, Vi.kTup_4, Vi.kTup_5, Vi.kTup_6, Vi.kTup_7, Vi.kTup_8, Vi.kZip_ll, Vi.kZip_lt, Vi.kZip_tl, Vi.kZip_tt, Vi.le_ii, Vi.leave_dat, Vi.leave_self, Vi.len_l, Vi.len_t, Vi.list_l, Vi.list_t, Vi.lt_ii, Vi.max_ii, Vi.min_ii, Vi.ne_bb, Vi.ne_ss, Vi.ne_ii, Vi.sl_l, Vi.sl_t, Vi.sub_ii, Vi.trim_self, Vi.tuple_l, Vi.tuple_t, Vi.turn_bad, Vi.turn_bk, Vi.turn_ct, Vi.turn_er, Vi.turn_nx, Vi.turn_rt, Vi.tyC_e, Vi.tyC_l, Vi.tyC_s, Vi.tyC_t, Vi.wipe_0, Vi.wipe_bad, Vi.wipe_bk, Vi.wipe_c, Vi.wipe_ct, Vi.wipe_er, Vi.wipe_nx, Vi.wipe_rt, Vi.x_C, Vi.x_and, Vi.x_app, Vi.x_asg, Vi.x_bin, Vi.x_brk, Vi.x_call, Vi.x_cel, Vi.x_chain, Vi.x_cnt, Vi.x_cons, Vi.x_dats0, Vi.x_datsS, Vi.x_dead, Vi.x_drop, Vi.x_frz, Vi.x_if, Vi.x_ifS, Vi.x_isE, Vi.x_isi, Vi.x_it, Vi.x_ita, Vi.x_kAnd, Vi.x_kChain, Vi.x_kNeg, Vi.x_kNot, Vi.x_kOr, Vi.x_kPar, Vi.x_kTest, Vi.x_lst, Vi.x_meth, Vi.x_neg, Vi.x_next, Vi.x_nil, Vi.x_noPart, Vi.x_not, Vi.x_ok, Vi.x_one, Vi.x_or, Vi.x_par, Vi.x_partG, Vi.kPart_i, Vi.tkM, Vi.dpM, Vi.rvM, Vi.cut_tn, Vi.cut_dn, Vi.cut_tn1, Vi.cut_dn1, Vi.cut_mapS, Vi.cut_d1, Vi.cut_t1, Vi.rev_t, Vi.rev_l, Vi.x_par, Vi.x_kPar, Vi.x_parN, Vi.kParN_0, Vi.kParN_c, List.length_map, Vi.toDat_e, Vi.tup_r, Vi.frz_r, Vi.it_r, List.mem_singleton, List.mem_cons, true_or, or_true, Vi.x_raise, Vi.x_ret, Vi.x_retN, Vi.x_rev, Vi.x_seq, Vi.x_set, Vi.x_sl, Vi.x_store, Vi.x_tAnd, Vi.x_tNot, Vi.x_tOr, Vi.x_test, Vi.x_tup, Vi.x_two, Vi.x_var0, Vi.x_varS, Vi.x_yes, Vi.st_ok', Vi.Out.st_er, Vi.Out.st_bad, Vi.kAsg, Vi.asgT, Vi.asgTs, List.set_cons_succ, List.set_cons_zero, List.map_cons, List.map_nil, List.length_cons, List.length_nil, List.replicate, List.cons_append, List.nil_append, Nat.reduceAdd, Nat.reduceSub, Int.reduceAdd, Int.reduceSub, Int.reduceMul, Int.reduceNeg, if_true, if_false, reduceIte, Bool.not_true, Bool.not_false, Bool.false_eq_true, Bool.true_and, Bool.false_and, Bool.and_true, Bool.and_false, Bool.true_or, Bool.false_or, Bool.or_true, Bool.or_false, decide_true, decide_false, beq_self_eq_true, $[$ts:term],*])
local macro_rules
  | `(tactic| walk_at "st") => `(tactic| wp_walk using "st", id_eq)
local macro_rules
  | `(tactic| walk_at "src") => `(tactic| first | exact src_tup_of _ _ | exact src_list_of _ _ | exact src_rn _ | exact src_en_l _ _ | exact src_en_t _ _ | exact src_z_ll _ _ _ _ | exact src_z_lt _ _ _ _ | exact src_z_tl _ _ _ _ | exact src_z_tt _ _ _ _ | exact src_ri _ _ | exact src_id_t _ | exact src_id_l _)
local macro_rules
  | `(tactic| walk_at "hz") => `(tactic| first | (simp only [size_is, List.length_range, List.length_map, List.length_zipIdx, List.length_zip]; omega) | (simp [size_is]; omega) | (simp [size_is]; done) | exact Nat.le_trans (List.length_filter_le _ _) (by simp [size_is]; omega))
local macro_rules
  | `(tactic| wp_walk using "ev", $ts,*) => `(tactic| first | (simp [$[$ts:term],*, -List.map_tail, -List.drop_one, -List.map_drop, -List.map_take, -List.map_reverse, -List.all_eq_true, -List.any_eq_true, -List.getD_eq_getElem?_getD]; done) | (simp [$[$ts:term],*, -List.map_tail, -List.drop_one, -List.map_drop, -List.map_take, -List.map_reverse, -List.all_eq_true, -List.any_eq_true, -List.getD_eq_getElem?_getD]; exact rfl) | (simp [$[$ts:term],*, -List.map_tail, -List.drop_one, -List.map_drop, -List.map_take, -List.map_reverse, -List.all_eq_true, -List.any_eq_true, -List.getD_eq_getElem?_getD]; exact kRng1_n (by omega)) | (simp [$[$ts:term],*, -List.map_tail, -List.drop_one, -List.map_drop, -List.map_take, -List.map_reverse, -List.all_eq_true, -List.any_eq_true, -List.getD_eq_getElem?_getD]; exact kRng1_i (by omega) (by omega)) | (simp [$[$ts:term],*, -List.map_tail, -List.drop_one, -List.map_drop, -List.map_take, -List.map_reverse, -List.all_eq_true, -List.any_eq_true, -List.getD_eq_getElem?_getD]; exact kRng2_i (by omega) (by omega) (by omega) (by omega)))
local macro_rules
  | `(tactic| wp_walk using "lc", $ts,*) => `(tactic| (
      rw [lc_y ?hi ?hs ?hz ?hx]
      (case hi => wp_walk using "ev", $ts,*)
      (case hs => walk_at "src")
      (case hz => walk_at "hz")
      (case hx => (intro a ha; refine ⟨_, rfl, fun g => ?_⟩; wp_walk using "ev", $ts,*))))
local macro_rules
  | `(tactic| wp_walk using "lcp", $ts,*) => `(tactic| (
      rw [lc_p ?hi ?hs ?hz ?ht ?hx]
      (case hi => wp_walk using "ev", $ts,*)
      (case hs => walk_at "src")
      (case hz => walk_at "hz")
      (case ht => (intro a ha; refine ⟨_, rfl, fun g => ?_⟩; wp_walk using "ev", $ts,*))
      (case hx => (intro a ha hp; refine ⟨_, rfl, fun g => ?_⟩; wp_walk using "ev", $ts,*))))
local macro_rules
  | `(tactic| wp_walk using "s", $ts,*) => `(tactic| simp [$[$ts:term],*, -List.map_tail, -List.drop_one, -List.map_drop, -List.map_take, -List.map_reverse, -List.all_eq_true, -List.any_eq_true, -List.getD_eq_getElem?_getD])
local macro_rules
  | `(tactic| walk_at "s") => `(tactic| simp [-List.map_tail, -List.drop_one, -List.map_drop, -List.map_take, -List.map_reverse, -List.all_eq_true, -List.any_eq_true, -List.getD_eq_getElem?_getD])
local macro_rules
  | `(tactic| walk_at "lc") => `(tactic| wp_walk using "lc", id_eq)
local macro_rules
  | `(tactic| walk_at "lcp") => `(tactic| wp_walk using "lcp", id_eq)
local macro_rules
  | `(tactic| wp_walk using "lcx", $t, $ts,*) => `(tactic| (
      rw [lc_yE ?hi ?hs ?hz ?hE ?hx]
      (case hi => wp_walk using "ev", $ts,*)
      (case hs => walk_at "src")
      (case hE => exact fun a ha => rfl)
      (case hx => exact $t)
      (case hz => walk_at "hz")))
local macro_rules
  | `(tactic| wp_walk using "lcpx", $u, $t, $ts,*) => `(tactic| (
      rw [lc_pE ?hi ?hs ?hz ?hE ?ht ?hx]
      (case hi => wp_walk using "ev", $ts,*)
      (case hs => walk_at "src")
      (case hE => exact fun a ha => rfl)
      (case ht => exact $u)
      (case hx => exact $t)
      (case hz => walk_at "hz")))
local macro_rules
  | `(tactic| wp_walk using "lc2", $t, $ts,*) => `(tactic| (
      rw [lc2_yE ?hi ?hs ?hE ?hi1 ?hs1 ?hE2 ?hz ?hx]
      (case hi => wp_walk using "ev", $ts,*)
      (case hs => walk_at "src")
      (case hE => exact fun a ha => rfl)
      (case hi1 => (intro a ha g; wp_walk using "ev", $ts,*))
      (case hs1 => (intro a ha; walk_at "src"))
      (case hE2 => exact fun a ha b hb => rfl)
      (case hx => exact $t)))
local macro_rules
  | `(tactic| wp_walk using "lc2p", $u, $t, $ts,*) => `(tactic| (
      rw [lc2_pE ?hi ?hs ?hE ?hi1 ?hs1 ?hE2 ?hz ?ht ?hx]
      (case hi => wp_walk using "ev", $ts,*)
      (case hs => walk_at "src")
      (case hE => exact fun a ha => rfl)
      (case hi1 => (intro a ha g; wp_walk using "ev", $ts,*))
      (case hs1 => (intro a ha; walk_at "src"))
      (case hE2 => exact fun a ha b hb => rfl)
      (case ht => exact $u)
      (case hx => exact $t)))
local macro_rules
  | `(tactic| wp_walk using "lci", $i, $t) => `(tactic| (
      rw [lc_yE ?hi ?hs ?hz ?hE ?hx]
      (case hi => exact $i)
      (case hs => walk_at "src")
      (case hE => exact fun a ha => rfl)
      (case hx => exact $t)
      (case hz => walk_at "hz")))
local macro_rules
  | `(tactic| wp_walk using "lcpi", $i, $u, $t) => `(tactic| (
      rw [lc_pE ?hi ?hs ?hz ?hE ?ht ?hx]
      (case hi => exact $i)
      (case hs => walk_at "src")
      (case hE => exact fun a ha => rfl)
      (case ht => exact $u)
      (case hx => exact $t)
      (case hz => walk_at "hz")))
/-! sums and rests -/
local macro_rules
  | `(tactic| walk_at "ar") => `(tactic| (try simp); (repeat (first | (rw [mul_r (by decide)]; simp) | (rw [mul_l (by decide)]; simp) | (rw [mod_ii (by decide)]; simp) | (rw [div_ii (by decide) (log_small (by decide) (by decide))]; simp) | (rw [pow_ii (by decide)]; simp) | (rw [mul_l (mod_small (by decide) (by decide))]; simp))))
local macro_rules
  | `(tactic| wp_walk using "lcf", $f, $t, $ts,*) => `(tactic| (
      rw [lc_yE (f := $f) ?hi ?hs ?hz ?hE ?hx]
      (case hi => wp_walk using "ev", $ts,*)
      (case hs => walk_at "src")
      (case hE => exact fun a ha => rfl)
      (case hx => exact $t)
      (case hz => walk_at "hz")))
namespace K56
open Bas
/-! # what is right -/
theorem thing_turn {T : List (List Int)} {n : Nat} (H : Ts T n) {m : Int × List Nat} (B : Best T n m) (most : Int) (hm : 0 ≤ most) (o0 o2 o3 o8 : Option Val) (x : PyData) (h : Hep) :
    L__law_is_right_1 [o0, some (.dat (tD T)), o2, o3, some (.dat (.int most)), some (.dat (toldOf T n m most)), some (.dat x), none, o8] h = .nx [o0, some (.dat (tD T)), o2, o3, some (.dat (.int most)), some (.dat (toldOf T n m most)), none, none, o8] h := by
  have e1 := p_is_told H most hm x h
  have e2 := p_law_told H most x h
  have e3 := is_same 40 (.bool (toldB T n most x)) rfl h
  unfold L__law_is_right_1
  rcases bcase (toldB T n most x) with q | q
  · obtain ⟨s, ⟨r1, rfl⟩, ⟨r2, e4⟩⟩ := told_one H B q
    rw [e4]
    have i1 : dIx (.dat (.tuple (.str s :: r1))) (.dat (.int 0)) h = .ok (.dat (.str s)) h := by
      rw [ix_t, show (0 : Int) = ((0 : Nat) : Int) from rfl, Vi.atI_nat (by simp)]
      rfl
    have i2 : dIx (.dat (.tuple (.str s :: r2))) (.dat (.int 0)) h = .ok (.dat (.str s)) h := by
      rw [ix_t, show (0 : Int) = ((0 : Nat) : Int) from rfl, Vi.atI_nat (by simp)]
      rfl
    rw [q] at e1 e2 e3
    wp_walk using "st", e1, e2, e3, i1, i2
  · rw [q] at e1 e2 e3
    wp_walk using "st", e1, e2, e3
theorem things_run {T : List (List Int)} {n : Nat} (H : Ts T n) {m : Int × List Nat} (B : Best T n m) (most : Int) (hm : 0 ≤ most) (o0 o2 o3 o8 : Option Val) (h : Hep) : ∀ xs : List PyData,
    forL (.nm 6) L__law_is_right_1 xs [o0, some (.dat (tD T)), o2, o3, some (.dat (.int most)), some (.dat (toldOf T n m most)), none, none, o8] h = .nx [o0, some (.dat (tD T)), o2, o3, some (.dat (.int most)), some (.dat (toldOf T n m most)), none, none, o8] h
  | [] => rfl
  | x :: xs => by
    rw [forL]
    have e := thing_turn H B most hm o0 o2 o3 o8 x h
    have ih := things_run H B most hm o0 o2 o3 o8 h xs
    wp_walk using "st", e, ih
theorem most_turn {T : List (List Int)} {n : Nat} (H : Ts T n) {m : Int × List Nat} (B : Best T n m) (F : ∀ most : Int, 0 ≤ most → ∀ h, m_relay_told [.dat (tD T), .dat (.int most)] h = .ok (.dat (toldOf T n m most)) h) (most : Int) (hm : 0 ≤ most) (o2 o8 : Option Val) {c : Cell} {cs : Hep} (hc : Hd c) (hf : Flat cs) :
    ∃ c', Hd c' ∧ L__law_is_right_2 [some (.ref 0), some (.dat (tD T)), o2, some (.dat (relD m)), some (.dat (.int most)), none, none, none, o8] (c :: cs) = .nx [some (.ref 0), some (.dat (tD T)), o2, some (.dat (relD m)), none, none, none, none, o8] (c' :: cs) := by
  have e1 := F most hm (c :: cs)
  have e2 := p_law_told H most (toldOf T n m most) (c :: cs)
  rw [told_ok H B] at e2
  obtain ⟨xs, c1, e3, hc1⟩ := p_things H B most hc hf
  have i3 : ∀ g, dIx (.dat (relD m)) (.dat (.int 0)) g = .ok (.dat (.int m.1)) g := fun g => rfl
  have e4 : ∀ (hh : Option Val), mFor (.nm 6) (mIt (mApp 3 m__law_things (mCons (mVar 0) (mCons (mVar 1) (mCons (mVar 5) (mNil)))))) (L__law_is_right_1) [some (.ref 0), some (.dat (tD T)), o2, hh, some (.dat (.int most)), some (.dat (toldOf T n m most)), none, none, o8] (c :: cs) = .nx [some (.ref 0), some (.dat (tD T)), o2, hh, some (.dat (.int most)), some (.dat (toldOf T n m most)), none, none, o8] (c1 :: cs) := fun hh => by
    rw [mFor_is (h1 := c1 :: cs) (xs := xs) (by wp_walk using "st", e3) (src_list xs), things_run H B most hm]
  refine ⟨c1, hc1, ?_⟩
  unfold L__law_is_right_2
  have i0 : ∀ g, dIx (.dat (toldOf T n m most)) (.dat (.int 0)) g = .ok (.dat (.str (if m.1 ≤ most then "relay" else "prices"))) g := fun g => by
    unfold toldOf
    by_cases cm : m.1 ≤ most
    · rw [if_pos cm, if_pos cm]; rfl
    · rw [if_neg cm, if_neg cm]; rfl
  have i4 : ((if m.1 ≤ most then ("relay" : Str) else "prices") == "relay") = decide (m.1 ≤ most) := by
    by_cases cm : m.1 ≤ most
    · rw [if_pos cm, decide_eq_true cm]; decide
    · rw [if_neg cm, decide_eq_false cm]; decide
  wp_walk using "st", e1, e2, i0, i3, i4, e4
theorem mosts_run {T : List (List Int)} {n : Nat} (H : Ts T n) {m : Int × List Nat} (B : Best T n m) (F : ∀ most : Int, 0 ≤ most → ∀ h, m_relay_told [.dat (tD T), .dat (.int most)] h = .ok (.dat (toldOf T n m most)) h) (o2 o8 : Option Val) {cs : Hep} (hf : Flat cs) : ∀ (ks : List Int) {c : Cell}, Hd c → (∀ k ∈ ks, 0 ≤ k) →
    ∃ c', Hd c' ∧ forL (.nm 4) L__law_is_right_2 (ks.map .int) [some (.ref 0), some (.dat (tD T)), o2, some (.dat (relD m)), none, none, none, none, o8] (c :: cs) = .nx [some (.ref 0), some (.dat (tD T)), o2, some (.dat (relD m)), none, none, none, none, o8] (c' :: cs)
  | [], c, hc, _ => ⟨c, hc, rfl⟩
  | k :: ks, c, hc, hk => by
    obtain ⟨c1, hc1, e⟩ := most_turn H B F k (hk k (List.mem_cons_self ..)) o2 o8 hc hf
    obtain ⟨c2, hc2, ih⟩ := mosts_run H B F o2 o8 hf ks hc1 fun k h => hk k (List.mem_cons_of_mem _ h)
    refine ⟨c2, hc2, ?_⟩
    rw [List.map_cons, forL]
    wp_walk using "st", e, ih
theorem sum_le {l : List Int} {b : Int} : (∀ x ∈ l, 0 ≤ x ∧ x ≤ b) → 0 ≤ l.sum ∧ l.sum ≤ b * l.length := by
  induction l with
  | nil => intro _; simp
  | cons a l ih =>
    intro h
    have h1 := h a (List.mem_cons_self ..)
    have h2 := ih fun x hx => h x (List.mem_cons_of_mem _ hx)
    simp only [List.sum_cons, List.length_cons, Int.natCast_add, Int.mul_add]
    omega
theorem sumR_le {T : List (List Int)} {n : Nat} (H : Ts T n) {r : List Nat} (R : Rel n r) : 0 ≤ sumR T r ∧ sumR T r ≤ 6000 := by
  have q : 0 ≤ sumR T r ∧ sumR T r ≤ 1000 * (r.zipIdx.map fun p => tm T p.2 p.1).length := by
    refine sum_le fun x hx => ?_
    obtain ⟨p, hp, rfl⟩ := List.mem_map.mp hx
    obtain ⟨h1, h2, _⟩ := idx_ok R p hp
    have h3 : p.2 < T.length := by rw [H.len]; exact h1
    unfold tm
    have e : T.getD p.2 [] = T[p.2] := by rw [List.getD_eq_getElem?_getD, List.getElem?_eq_getElem h3]; rfl
    rw [e]
    have h4 : p.1 < T[p.2].length := by rw [H.row _ (List.getElem_mem h3)]; exact h2
    rw [List.getD_eq_getElem?_getD, List.getElem?_eq_getElem h4]
    exact H.ok _ (List.getElem_mem h3) _ (List.getElem_mem h4)
  have := H.hi
  have := R.len
  simp only [List.length_map, List.length_zipIdx] at q
  omega
theorem p_is_right {T : List (List Int)} {n : Nat} (H : Ts T n) {c : Cell} {cs : Hep} (hc : Hd c) (hf : Flat cs) : ∃ c', Hd c' ∧ m__law_is_right [.ref 0, .dat (tD T)] (c :: cs) = .ok (.dat (.bool true)) (c' :: cs) := by
  have hn := H.hi
  obtain ⟨m, B, f1, F, f2⟩ := p_relay_told H
  obtain ⟨R, r1, _⟩ := B.rel
  obtain ⟨b1, b2⟩ := sumR_le H R
  have tl : ∀ g, fLen [.dat (tD T)] g = .ok (.dat (.int n)) g := fun g => by
    unfold tD
    rw [len_t, List.length_map, H.len]
  have po := fun g => p_law_orders n (by omega) g
  have ol := allO_len (n := n) (by omega)
  obtain ⟨i, c1, d1, hc1, _⟩ := draw1 (m := m.1 + 5) (by omega) (by omega) hc hf
  have okr : okd 40 (relD m) = true := by
    have := R.len
    unfold relD rowD
    simp only [okd, List.length_cons, List.length_nil, List.length_map, List.all_cons, List.all_nil, Bool.and_true, Bool.and_eq_true, decide_eq_true_eq]
    refine ⟨by omega, trivial, by omega, List.all_eq_true.mpr fun y hy => ?_⟩
    obtain ⟨j, _, rfl⟩ := List.mem_map.mp hy
    rfl
  have i1 := is_same 40 (relD m) okr
  have i3 : ∀ g, dIx (.dat (relD m)) (.dat (.int 0)) g = .ok (.dat (.int m.1)) g := fun g => rfl
  unfold m__law_is_right mFun b__law_is_right
  wp_walk using "st", tl, po
  wp_walk using "lcx", (fun r hr g => by
    have q := p_law_sum H (rel_all.mp hr) g
    wp_walk using "st", q
    exact rfl), id_eq
  obtain ⟨c2, hc2, e2⟩ := mosts_run H B F (some (.dat (.list ((allO n).map rowD)))) none hf [m.1, if m.1 - 1 > 0 then m.1 - 1 else 0, (i : Int)] hc1 (fun k hk => by
    simp only [List.mem_cons, List.not_mem_nil, or_false] at hk
    rcases hk with rfl | rfl | rfl
    · omega
    · split <;> omega
    · omega)
  simp only [List.map_cons, List.map_nil] at e2
  wp_walk using "st", f1, f2, i1
  rw [mFor_is (h1 := c1 :: cs) (xs := [.int m.1, .int (if m.1 - 1 > 0 then m.1 - 1 else 0), .int i]) (by wp_walk using "st", d1, i3) (src_tup _), e2]
  walk_at "st"
  exact ⟨c2, hc2, leave_dr0 hc2 hf⟩
end K56
end K56aa_

section K56bb_
set_option linter.all false
set_option maxRecDepth 100000
open PySem PySem.Spec PyProof.Rows L2 Vi
/-! the ways "src", "lc", "lcp": a comprehension is run, its function found -/
local macro_rules
  | `(tactic| wp_walk using "st", $ts,*) => `(tactic| simp only [Vi.abs_i, Vi.add_ii, Vi.all_map, Vi.andThen_bad, Vi.andThen_bk, Vi.andThen_ct, Vi.andThen_er, Vi.andThen_nx, Vi.andThen_rt, Vi.bind_bad, Vi.bind_er, Vi.bind_ok, Vi.eq_bb, Vi.eq_ii, Vi.eq_ss, Vi.ge_ii, Vi.gt_ii, Vi.iBool_dict, Vi.iInt_dict, Vi.iLst_dict, Vi.iStr_dict, Vi.iTup_dict, Vi.int_i, Vi.isBool_bool, Vi.isBool_int, Vi.isBool_list, Vi.isBool_none, Vi.isBool_str, Vi.isBool_tuple, Vi.isInt_bool, Vi.isInt_int, Vi.isInt_list, Vi.isInt_none, Vi.isInt_str, Vi.isInt_tuple, Vi.isLst_bool, Vi.isLst_int, Vi.isLst_list, Vi.isLst_none, Vi.isLst_str, Vi.isLst_tuple, Vi.isStr_bool, Vi.isStr_int, Vi.isStr_list, Vi.isStr_none, Vi.isStr_str, Vi.isStr_tuple, Vi.isTup_bool, Vi.isTup_int, Vi.isTup_list, Vi.isTup_none, Vi.isTup_str, Vi.isTup_tuple, Vi.is_none, Vi.isi_bool, Vi.isi_int, Vi.isi_list, Vi.isi_str, Vi.isi_tl, Vi.isi_tuple, Vi.it_dat_list, Vi.it_dat_str, Vi.it_dat_tup, Vi.kCel_0, Vi.kCel_1, Vi.kCel_2, Vi.kCel_3, Vi.kCel_4, Vi.kCel_5, Vi.kCel_6, Vi.kCel_7, Vi.kCel_8, Vi.kCel_9, Vi.kCel_10, Vi.kCel_11, Vi.kCel_12, Vi.kCel_13, Vi.kCel_14, Vi.kCel_15, Vi.kCel_16, Vi.kLst_17, Vi.kLst_18, Vi.kLst_19, Vi.kLst_20, Vi.kLst_21, Vi.kLst_22, Vi.kLst_23, Vi.kLst_24, Vi.kTup_9, Vi.kTup_10, Vi.kTup_11, Vi.kTup_12, Vi.kTup_13, Vi.kEnum_l, Vi.kEnum_t, Vi.kLst_0, Vi.kLst_1, Vi.kLst_10, Vi.kLst_11, Vi.kLst_12, Vi.kLst_13, Vi.kLst_14, Vi.kLst_15, Vi.kLst_16, Vi.kLst_2, Vi.kLst_3, Vi.kLst_4, Vi.kLst_5, Vi.kLst_6, Vi.kLst_7, Vi.kLst_8, Vi.kLst_9, Vi.kTup_0, Vi.kTup_1, Vi.kTup_2, Vi.kTup_3, Vi.kTup_4, Vi.kTup_5, Vi.kTup_6, Vi.kTup_7, Vi.kTup_8, Vi.kZip_ll, Vi.kZip_lt, Vi.kZip_tl, Vi.kZip_tt, Vi.le_ii, Vi.leave_dat, Vi.leave_self, Vi.len_l, Vi.len_t, Vi.list_l, Vi.list_t, Vi.lt_ii, Vi.max_ii, Vi.min_ii, Vi.ne_bb, Vi.ne_ss, Vi.ne_ii, Vi.sl_l, Vi.sl_t, Vi.sub_ii, Vi.trim_self, Vi.tuple_l, Vi.tuple_t, Vi.turn_bad, Vi.turn_bk, Vi.turn_ct, Vi.turn_er, Vi.turn_nx, Vi.turn_rt, Vi.tyC_e, Vi.tyC_l, Vi.tyC_s, Vi.tyC_t, Vi.wipe_0, Vi.wipe_bad, Vi.wipe_bk, Vi.wipe_c, Vi.wipe_ct, Vi.wipe_er, Vi.wipe_nx, Vi.wipe_rt, Vi.x_C, Vi.x_and, Vi.x_app, Vi.x_asg, Vi.x_bin, Vi.x_brk, Vi.x_call, Vi.x_cel, Vi.x_chain, Vi.x_cnt, Vi.x_cons, Vi.x_dats0, Vi.x_datsS, Vi.x_dead, Vi.x_drop, Vi.x_frz, Vi.x_if, Vi.x_ifS, Vi.x_isE, Vi.x_isi, Vi.x_it, Vi.x_ita, Vi.x_kAnd, Vi.x_kChain, Vi.x_kNeg, Vi.x_kNot, Vi.x_kOr, Vi.x_kPar, Vi.x_kTest, Vi.x_lst, Vi.x_meth, Vi.x_neg, Vi.x_next, Vi.x_nil, Vi.x_noPart, Vi.x_not, Vi.x_ok, Vi.x_one, Vi.x_or, Vi.x_par, Vi.x_partG, Vi.kPart_i, Vi.tkM, Vi.dpM, Vi.rvM, Vi.cut_tn, Vi.cut_dn, Vi.cut_tn1, Vi.cut_dn1, Vi.cut_mapS, Vi.cut_d1, Vi.cut_t1, Vi.rev_t, Vi.rev_l, Vi.x_par, Vi.x_kPar, Vi.x_parN, Vi.kParN_0, Vi.kParN_c, List.length_map, Vi.toDat_e, Vi.tup_r, Vi.frz_r, Vi.it_r, List.mem_singleton, List.mem_cons, true_or, or_true, Vi.x_raise, Vi.x_ret, Vi.x_retN, Vi.x_rev, Vi.x_seq, Vi.x_set, Vi.x_sl, Vi.x_store, Vi.x_tAnd, Vi.x_tNot, Vi.x_tOr, Vi.x_test, Vi.x_tup, Vi.x_two, Vi.x_var0, Vi.x_varS, Vi.x_yes, Vi.st_ok', Vi.Out.st_er, Vi.Out.st_bad, Vi.kAsg, Vi.asgT, Vi.asgTs, List.set_cons_succ, List.set_cons_zero, List.map_cons, List.map_nil, List.length_cons, List.length_nil, List.replicate, List.cons_append, List.nil_append, Nat.reduceAdd, Nat.reduceSub, Int.reduceAdd, Int.reduceSub, Int.reduceMul, Int.reduceNeg, if_true, if_false, reduceIte, Bool.not_true, Bool.not_false, Bool.false_eq_true, Bool.true_and, Bool.false_and, Bool.and_true, Bool.and_false, Bool.true_or, Bool.false_or, Bool.or_true, Bool.or_false, decide_true, decide_false, beq_self_eq_true, $[$ts:term],*])
local macro_rules
  | `(tactic| walk_at "st") => `(tactic| wp_walk using "st", id_eq)
local macro_rules
  | `(tactic| walk_at "src") => `(tactic| first | exact src_tup_of _ _ | exact src_list_of _ _ | exact src_rn _ | exact src_en_l _ _ | exact src_en_t _ _ | exact src_z_ll _ _ _ _ | exact src_z_lt _ _ _ _ | exact src_z_tl _ _ _ _ | exact src_z_tt _ _ _ _ | exact src_ri _ _ | exact src_id_t _ | exact src_id_l _)
local macro_rules
  | `(tactic| walk_at "hz") => `(tactic| first | (simp only [size_is, List.length_range, List.length_map, List.length_zipIdx, List.length_zip]; omega) | (simp [size_is]; omega) | (simp [size_is]; done) | exact Nat.le_trans (List.length_filter_le _ _) (by simp [size_is]; omega))
local macro_rules
  | `(tactic| wp_walk using "ev", $ts,*) => `(tactic| first | (simp [$[$ts:term],*, -List.map_tail, -List.drop_one, -List.map_drop, -List.map_take, -List.map_reverse, -List.all_eq_true, -List.any_eq_true, -List.getD_eq_getElem?_getD]; done) | (simp [$[$ts:term],*, -List.map_tail, -List.drop_one, -List.map_drop, -List.map_take, -List.map_reverse, -List.all_eq_true, -List.any_eq_true, -List.getD_eq_getElem?_getD]; exact rfl) | (simp [$[$ts:term],*, -List.map_tail, -List.drop_one, -List.map_drop, -List.map_take, -List.map_reverse, -List.all_eq_true, -List.any_eq_true, -List.getD_eq_getElem?_getD]; exact kRng1_n (by omega)) | (simp [$[$ts:term],*, -List.map_tail, -List.drop_one, -List.map_drop, -List.map_take, -List.map_reverse, -List.all_eq_true, -List.any_eq_true, -List.getD_eq_getElem?_getD]; exact kRng1_i (by omega) (by omega)) | (simp [$[$ts:term],*, -List.map_tail, -List.drop_one, -List.map_drop, -List.map_take, -List.map_reverse, -List.all_eq_true, -List.any_eq_true, -List.getD_eq_getElem?_getD]; exact kRng2_i (by omega) (by omega) (by omega) (by omega)))
local macro_rules
  | `(tactic| wp_walk using "lc", $ts,*) => `(tactic| (
      rw [lc_y ?hi ?hs ?hz ?hx]
      (case hi => wp_walk using "ev", $ts,*)
      (case hs => walk_at "src")
      (case hz => walk_at "hz")
      (case hx => (intro a ha; refine ⟨_, rfl, fun g => ?_⟩; wp_walk using "ev", $ts,*))))
local macro_rules
  | `(tactic| wp_walk using "lcp", $ts,*) => `(tactic| (
      rw [lc_p ?hi ?hs ?hz ?ht ?hx]
      (case hi => wp_walk using "ev", $ts,*)
      (case hs => walk_at "src")
      (case hz => walk_at "hz")
      (case ht => (intro a ha; refine ⟨_, rfl, fun g => ?_⟩; wp_walk using "ev", $ts,*))
      (case hx => (intro a ha hp; refine ⟨_, rfl, fun g => ?_⟩; wp_walk using "ev", $ts,*))))
local macro_rules
  | `(tactic| wp_walk using "s", $ts,*) => `(tactic| simp [$[$ts:term],*, -List.map_tail, -List.drop_one, -List.map_drop, -List.map_take, -List.map_reverse, -List.all_eq_true, -List.any_eq_true, -List.getD_eq_getElem?_getD])
local macro_rules
  | `(tactic| walk_at "s") => `(tactic| simp [-List.map_tail, -List.drop_one, -List.map_drop, -List.map_take, -List.map_reverse, -List.all_eq_true, -List.any_eq_true, -List.getD_eq_getElem?_getD])
local macro_rules
  | `(tactic| walk_at "lc") => `(tactic| wp_walk using "lc", id_eq)
local macro_rules
  | `(tactic| walk_at "lcp") => `(tactic| wp_walk using "lcp", id_eq)
local macro_rules
  | `(tactic| wp_walk using "lcx", $t, $ts,*) => `(tactic| (
      rw [lc_yE ?hi ?hs ?hz ?hE ?hx]
      (case hi => wp_walk using "ev", $ts,*)
      (case hs => walk_at "src")
      (case hE => exact fun a ha => rfl)
      (case hx => exact $t)
      (case hz => walk_at "hz")))
local macro_rules
  | `(tactic| wp_walk using "lcpx", $u, $t, $ts,*) => `(tactic| (
      rw [lc_pE ?hi ?hs ?hz ?hE ?ht ?hx]
      (case hi => wp_walk using "ev", $ts,*)
      (case hs => walk_at "src")
      (case hE => exact fun a ha => rfl)
      (case ht => exact $u)
      (case hx => exact $t)
      (case hz => walk_at "hz")))
local macro_rules
  | `(tactic| wp_walk using "lc2", $t, $ts,*) => `(tactic| (
      rw [lc2_yE ?hi ?hs ?hE ?hi1 ?hs1 ?hE2 ?hz ?hx]
      (case hi => wp_walk using "ev", $ts,*)
      (case hs => walk_at "src")
      (case hE => exact fun a ha => rfl)
      (case hi1 => (intro a ha g; wp_walk using "ev", $ts,*))
      (case hs1 => (intro a ha; walk_at "src"))
      (case hE2 => exact fun a ha b hb => rfl)
      (case hx => exact $t)))
local macro_rules
  | `(tactic| wp_walk using "lc2p", $u, $t, $ts,*) => `(tactic| (
      rw [lc2_pE ?hi ?hs ?hE ?hi1 ?hs1 ?hE2 ?hz ?ht ?hx]
      (case hi => wp_walk using "ev", $ts,*)
      (case hs => walk_at "src")
      (case hE => exact fun a ha => rfl)
      (case hi1 => (intro a ha g; wp_walk using "ev", $ts,*))
      (case hs1 => (intro a ha; walk_at "src"))
      (case hE2 => exact fun a ha b hb => rfl)
      (case ht => exact $u)
      (case hx => exact $t)))
local macro_rules
  | `(tactic| wp_walk using "lci", $i, $t) => `(tactic| (
      rw [lc_yE ?hi ?hs ?hz ?hE ?hx]
      (case hi => exact $i)
      (case hs => walk_at "src")
      (case hE => exact fun a ha => rfl)
      (case hx => exact $t)
      (case hz => walk_at "hz")))
local macro_rules
  | `(tactic| wp_walk using "lcpi", $i, $u, $t) => `(tactic| (
      rw [lc_pE ?hi ?hs ?hz ?hE ?ht ?hx]
      (case hi => exact $i)
      (case hs => walk_at "src")
      (case hE => exact fun a ha => rfl)
      (case ht => exact $u)
      (case hx => exact $t)
      (case hz => walk_at "hz")))
/-! sums and rests -/
local macro_rules
  | `(tactic| walk_at "ar") => `(tactic| (try simp); (repeat (first | (rw [mul_r (by decide)]; simp) | (rw [mul_l (by decide)]; simp) | (rw [mod_ii (by decide)]; simp) | (rw [div_ii (by decide) (log_small (by decide) (by decide))]; simp) | (rw [pow_ii (by decide)]; simp) | (rw [mul_l (mod_small (by decide) (by decide))]; simp))))
local macro_rules
  | `(tactic| wp_walk using "lcf", $f, $t, $ts,*) => `(tactic| (
      rw [lc_yE (f := $f) ?hi ?hs ?hz ?hE ?hx]
      (case hi => wp_walk using "ev", $ts,*)
      (case hs => walk_at "src")
      (case hE => exact fun a ha => rfl)
      (case hx => exact $t)
      (case hz => walk_at "hz")))
namespace K56
open Bas
/-! # what is refused -/
theorem told_no {d e : PyData} (hz : short2 d = true) (hd : timesB d = false) (h : Hep) : m_relay_told [.dat d, .dat e] h = .er ⟨"NoTimes", none⟩ h := by
  have q := p_check_most d e hz h
  rw [hd] at q
  simp only [Bool.false_eq_true, if_false] at q
  unfold m_relay_told mFun b_relay_told
  wp_walk using "st", q
theorem told_no2 {d e : PyData} (hz : short2 d = true) (hd : timesB d = true) (he : numB e = false) (h : Hep) : m_relay_told [.dat d, .dat e] h = .er ⟨"NoNumber", none⟩ h := by
  have q := p_check_most d e hz h
  rw [hd, he] at q
  simp only [Bool.false_eq_true, if_false, if_true] at q
  unfold m_relay_told mFun b_relay_told
  wp_walk using "st", q
theorem best_no {d : PyData} (hz : short2 d = true) (hd : timesB d = false) (h : Hep) : m_best_relay [.dat d] h = .er ⟨"NoTimes", none⟩ h := by
  have q := p_check_times d hz h
  rw [hd] at q
  simp only [Bool.false_eq_true, if_false] at q
  unfold m_best_relay mFun b_best_relay
  wp_walk using "st", q
theorem is_no {d e x : PyData} (hz : short2 d = true) (hd : timesB d = false) (h : Hep) : m_is_relay_told [.dat d, .dat e, .dat x] h = .er ⟨"NoTimes", none⟩ h := by
  have q := p_check_most d e hz h
  rw [hd] at q
  simp only [Bool.false_eq_true, if_false] at q
  unfold m_is_relay_told mFun b_is_relay_told
  wp_walk using "st", q
theorem is_no2 {d e x : PyData} (hz : short2 d = true) (hd : timesB d = true) (he : numB e = false) (h : Hep) : m_is_relay_told [.dat d, .dat e, .dat x] h = .er ⟨"NoNumber", none⟩ h := by
  have q := p_check_most d e hz h
  rw [hd, he] at q
  simp only [Bool.false_eq_true, if_false, if_true] at q
  unfold m_is_relay_told mFun b_is_relay_told
  wp_walk using "st", q
def Bad (d : PyData) : Prop := short2 d = true ∧ timesB d = false
theorem deep_bad {d : PyData} (h : Deep d) : Bad d := by
  rcases h with rfl | ⟨w, rfl, h⟩ | ⟨w, rfl⟩
  · exact ⟨rfl, rfl⟩
  · refine ⟨?_, ?_⟩
    · simp only [short2, List.length_cons, List.length_nil, List.all_cons, List.all_nil, Bool.and_true, h]; rfl
    · simp only [timesB, rowB, List.all_cons, Bool.false_and, Bool.and_false]
  · exact ⟨rfl, rfl⟩
theorem bad1 {d : PyData} (h : d ∈ [PyData.none, .tuple [], .list [.tuple [.int 1]], .tuple [.tuple []], .tuple [.tuple [.int 1, .int 2]], .tuple [.tuple [.int 1], .tuple [.int 2]], .tuple [.tuple [.int 1001]], .tuple [.tuple [.int (-1)]], .tuple [.tuple [.bool true]], .tuple [.tuple [.str "?"]], .str "?"]) : Bad d := by
  simp only [List.mem_cons, List.not_mem_nil, or_false] at h
  rcases h with rfl | rfl | rfl | rfl | rfl | rfl | rfl | rfl | rfl | rfl | rfl <;> exact ⟨rfl, rfl⟩
theorem bad2 {d w b : PyData} (hb : Bad b) (hw : Deep w) (h : d ∈ [b, .tuple (List.replicate 7 (.tuple (List.replicate 7 (.int 0)))), .tuple [.list [.int 1]], w]) : Bad d := by
  simp only [List.mem_cons, List.not_mem_nil, or_false] at h
  rcases h with rfl | rfl | rfl | rfl
  · exact hb
  · exact ⟨rfl, rfl⟩
  · exact ⟨rfl, rfl⟩
  · exact deep_bad hw
theorem odd_no {d w : PyData} (hw : Deep w) (h : d ∈ [PyData.int (-1), .none, .bool true, .str "?", w]) : numB d = false := by
  simp only [List.mem_cons, List.not_mem_nil, or_false] at h
  rcases h with rfl | rfl | rfl | rfl | rfl
  · rfl
  · rfl
  · rfl
  · rfl
  · rcases hw with rfl | ⟨w, rfl, h⟩ | ⟨w, rfl⟩ <;> rfl
theorem law_turn (v : Val) (t : PyData) (o2 o3 : Option Val) {c : Cell} {cs : Hep} (hc : Hd c) (hf : Flat cs) : ∃ (c' : Cell) (cs' : Hep), Hd c' ∧ Flat cs' ∧ L_law_1 [some v, some (.ref 0), o2, o3, some (.dat t), none, none, none, none, none, none, none] (c :: cs) = .nx [some v, some (.ref 0), none, o3, none, none, none, none, none, none, none, none] (c' :: cs') := by
  unfold L_law_1
  obtain ⟨i, c1, d1, hc1, hi⟩ := draw1 (m := 5) (by decide) (by decide) hc hf
  obtain ⟨top, c2, d2, hc2, htop⟩ := some_of (xs := [.int 2, .int 5, .int 1001]) (by simp) (by simp) hc1 hf
  obtain ⟨tp, rfl, ht1, ht2⟩ : ∃ tp : Nat, top = .int tp ∧ 1 ≤ tp ∧ tp ≤ 1001 := by
    simp only [List.mem_cons, List.not_mem_nil, or_false] at htop
    rcases htop with rfl | rfl | rfl
    · exact ⟨2, rfl, by omega, by omega⟩
    · exact ⟨5, rfl, by omega, by omega⟩
    · exact ⟨1001, rfl, by omega, by omega⟩
  have e : (1 : Int) + (i : Int) = ((1 + i : Nat) : Int) := by omega
  obtain ⟨c3, vs, d3, hc3, lv, qv⟩ := lc_drawn (Q := fun v => ∃ a : List Int, v = iT a ∧ (a.length = 1 + i ∧ ∀ z ∈ a, 0 ≤ z ∧ z ≤ 1000)) (tg := .nm 10) (mi := mIta kRng1 (mCons (mVar 8) (mNil))) (me := mCall fTuple (mCons (mLc .data (.nm 11) (mIta kRng1 (mCons (mVar 8) (mNil))) (mYes) (mApp 2 m__law_draw (mCons (mVar 1) (mCons (mVar 9) (mNil)))) [11]) (mNil))) (wv := [10])
    (env := [some v, some (.ref 0), o2, o3, some (.dat t), none, none, none, some (.dat (.int ((1 + i : Nat) : Int))), some (.dat (.int tp)), none, none]) (h := c2 :: cs) (s := .rng 0 1 (1 + i)) (l := (List.range (1 + i)).map fun (j : Nat) => .int (j : Nat)) (by
      wp_walk using "st", d2, e
      exact kRng1_n (by omega)) (src_rn (1 + i)) (by simp [size_is]; omega) hc2 hf (fun d hd => ⟨_, rfl, by
      intro c cs hc hf
      obtain ⟨c3, vs, d3, hc3, lv, qv⟩ := lc_drawn (Q := fun v => ∃ a : Int, v = .int a ∧ (0 ≤ a ∧ a ≤ 1000)) (tg := .nm 11) (mi := mIta kRng1 (mCons (mVar 8) (mNil))) (me := mApp 2 m__law_draw (mCons (mVar 1) (mCons (mVar 9) (mNil)))) (wv := [11])
        (env := [some v, some (.ref 0), o2, o3, some (.dat t), none, none, none, some (.dat (.int ((1 + i : Nat) : Int))), some (.dat (.int tp)), some (.dat d), none]) (h := c :: cs) (s := .rng 0 1 (1 + i)) (l := (List.range (1 + i)).map fun (j : Nat) => .int (j : Nat)) (by
          walk_at "st"
          exact kRng1_n (by omega)) (src_rn (1 + i)) (by simp [size_is]; omega) hc hf (fun d hd => ⟨_, rfl, by
          intro c cs hc hf
          obtain ⟨j, c', e, h1, h2⟩ := draw1 (m := tp) (by omega) (by omega) hc hf
          refine ⟨.int j, c', ?_, h1, j, rfl, by omega, by omega⟩
          wp_walk using "st", e⟩)
      obtain ⟨rs, rfl, rl, rok⟩ := all_as vs qv
      have rlen : rs.length = 1 + i := by rw [rl, lv]; simp
      refine ⟨iT rs, c3, ?_, hc3, rs, rfl, rlen, rok⟩
      wp_walk using "st", d3
      rfl⟩)
  obtain ⟨T, rfl, tl, tok⟩ := all_as vs qv
  have tlen : T.length = 1 + i := by rw [tl, lv]; simp
  have H : Ts T (1 + i) := ⟨tlen, by omega, by omega, fun r hr => (tok r hr).1, fun r hr => (tok r hr).2⟩
  have Hs : short2 (tD T) = true := by
    simp only [short2, tD, List.length_map, Bool.and_eq_true, decide_eq_true_eq]
    refine ⟨by omega, List.all_eq_true.mpr fun x hx => ?_⟩
    obtain ⟨r, hr, rfl⟩ := List.mem_map.mp hx
    simp only [shortB, iT, List.length_map, decide_eq_true_eq]
    have := H.row r hr
    omega
  obtain ⟨c4, hc4, d4⟩ := p_is_right H hc3 hf
  have tt : ∀ g, fTuple [.dat (.list (T.map iT))] g = .ok (.dat (tD T)) g := fun g => tuple_l
  obtain ⟨b1, c5, d5, hc5, hb1⟩ := some_of (xs := [PyData.none, .tuple [], .list [.tuple [.int 1]], .tuple [.tuple []], .tuple [.tuple [.int 1, .int 2]], .tuple [.tuple [.int 1], .tuple [.int 2]], .tuple [.tuple [.int 1001]], .tuple [.tuple [.int (-1)]], .tuple [.tuple [.bool true]], .tuple [.tuple [.str "?"]], .str "?"]) (by simp) (by simp) hc4 hf
  obtain ⟨w1, c6, d6, hc6, hw1⟩ := deep hc5 hf
  obtain ⟨bad, c7, d7, hc7, hbad⟩ := some_of (xs := [b1, .tuple (List.replicate 7 (.tuple (List.replicate 7 (.int 0)))), .tuple [.list [.int 1]], w1]) (by simp) (by simp) hc6 hf
  obtain ⟨w2, c8, d8, hc8, hw2⟩ := deep hc7 hf
  obtain ⟨odd, c9, d9, hc9, hodd⟩ := some_of (xs := [PyData.int (-1), .none, .bool true, .str "?", w2]) (by simp) (by simp) hc8 hf
  have r7 : ∀ g, dMul (.dat (.tuple [.int 0])) (.dat (.int 7)) g = .ok (.dat (.tuple (List.replicate 7 (.int 0)))) g := fun g => by
    have q := rep_t (f := PyData.int) (a := 0) (k := 7) (h := g) (by decide) (by decide)
    simpa using q
  have r77 : ∀ g, dMul (.dat (.tuple [.tuple (List.replicate 7 (.int 0))])) (.dat (.int 7)) g = .ok (.dat (.tuple (List.replicate 7 (.tuple (List.replicate 7 (.int 0)))))) g := fun g => by
    have q := rep_t (f := fun _ : Nat => PyData.tuple (List.replicate 7 (.int 0))) (a := 0) (k := 7) (h := g) (by decide) (by decide)
    simpa using q
  obtain ⟨nb1, nb2⟩ := bad2 (bad1 hb1) hw1 hbad
  have no := odd_no hw2 hodd
  simp only [List.replicate] at d7 r7 r77
  wp_walk using "st", d1, d2, e, d3, tt, d4, d5, x_kNeg, r7, r77, d6, d7, d8, d9
  generalize hg : c9 :: cs = g
  have pc := fun (acc : List PyData) (d : PyData) (hz : acc.length < 100) => putC_c (h := g) (acc := acc) (d := d) (by rw [size_is]; omega)
  have nw := ne_words (g := g) (acc := ["times", "number", "times", "times", "number"])
  simp only [List.map_cons, List.map_nil] at nw
  have pc1 := pc [.str "times"] (.str "number") (by simp)
  have pc2 := pc [.str "times", .str "number"] (.str "times") (by simp)
  have pc3 := pc [.str "times", .str "number", .str "times"] (.str "times") (by simp)
  have pc4 := pc [.str "times", .str "number", .str "times", .str "times"] (.str "number") (by simp)
  simp only [List.cons_append, List.nil_append] at pc1 pc2 pc3 pc4
  wp_walk using "st", x_lam, told_no nb1 nb2, told_no2 Hs H.times no, best_no nb1 nb2, is_no nb1 nb2, is_no2 Hs H.times no, lam_r, lam_n, pc1, pc2, pc3, pc4, nw
  subst hg
  exact ⟨c9, cs ++ [.lst [.str "times", .str "number", .str "times", .str "times", .str "number"]], hc9, flat_a hf, rfl⟩
end K56
end K56bb_

section K56cc_
set_option linter.all false
set_option maxRecDepth 100000
open PySem PySem.Spec PyProof.Rows L2 Vi
/-! the ways "src", "lc", "lcp": a comprehension is run, its function found -/
local macro_rules
  | `(tactic| wp_walk using "st", $ts,*) => `(tactic| simp only [Vi.abs_i, Vi.add_ii, Vi.all_map, Vi.andThen_bad, Vi.andThen_bk, Vi.andThen_ct, Vi.andThen_er, Vi.andThen_nx, Vi.andThen_rt, Vi.bind_bad, Vi.bind_er, Vi.bind_ok, Vi.eq_bb, Vi.eq_ii, Vi.eq_ss, Vi.ge_ii, Vi.gt_ii, Vi.iBool_dict, Vi.iInt_dict, Vi.iLst_dict, Vi.iStr_dict, Vi.iTup_dict, Vi.int_i, Vi.isBool_bool, Vi.isBool_int, Vi.isBool_list, Vi.isBool_none, Vi.isBool_str, Vi.isBool_tuple, Vi.isInt_bool, Vi.isInt_int, Vi.isInt_list, Vi.isInt_none, Vi.isInt_str, Vi.isInt_tuple, Vi.isLst_bool, Vi.isLst_int, Vi.isLst_list, Vi.isLst_none, Vi.isLst_str, Vi.isLst_tuple, Vi.isStr_bool, Vi.isStr_int, Vi.isStr_list, Vi.isStr_none, Vi.isStr_str, Vi.isStr_tuple, Vi.isTup_bool, Vi.isTup_int, Vi.isTup_list, Vi.isTup_none, Vi.isTup_str, Vi.isTup_tuple, Vi.is_none, Vi.isi_bool, Vi.isi_int, Vi.isi_list, Vi.isi_str, Vi.isi_tl, Vi.isi_tuple, Vi.it_dat_list, Vi.it_dat_str, Vi.it_dat_tup, Vi.kCel_0, Vi.kCel_1, Vi.kCel_2, Vi.kCel_3, Vi.kCel_4, Vi.kCel_5, Vi.kCel_6, Vi.kCel_7, Vi.kCel_8, Vi.kCel_9, Vi.kCel_10, Vi.kCel_11, Vi.kCel_12, Vi.kCel_13, Vi.kCel_14, Vi.kCel_15, Vi.kCel_16, Vi.kLst_17, Vi.kLst_18, Vi.kLst_19, Vi.kLst_20, Vi.kLst_21, Vi.kLst_22, Vi.kLst_23, Vi.kLst_24, Vi.kTup_9, Vi.kTup_10, Vi.kTup_11, Vi.kTup_12, Vi.kTup_13, Vi.kEnum_l, Vi.kEnum_t, Vi.kLst_0, Vi.kLst_1, Vi.kLst_10, Vi.kLst_11, Vi.kLst_12, Vi.kLst_13, Vi.kLst_14, Vi.kLst_15, Vi.kLst_16, Vi.kLst_2, Vi.kLst_3, Vi.kLst_4, Vi.kLst_5, Vi.kLst_6, Vi.kLst_7, Vi.kLst_8, Vi.kLst_9, Vi.kTup_0, Vi.kTup_1, Vi.kTup_2, Vi.kTup_3, Vi.kTup_4, Vi.kTup_5, Vi.kTup_6, Vi.kTup_7, Vi.kTup_8, Vi.kZip_ll, Vi.kZip_lt, Vi.kZip_tl, Vi.kZip_tt, Vi.le_ii, Vi.leave_dat, Vi.leave_self, Vi.len_l, Vi.len_t, Vi.list_l, Vi.list_t, Vi.lt_ii, Vi.max_ii, Vi.min_ii, Vi.ne_bb, Vi.ne_ss, Vi.ne_ii, Vi.sl_l, Vi.sl_t, Vi.sub_ii, Vi.trim_self, Vi.tuple_l, Vi.tuple_t, Vi.turn_bad, Vi.turn_bk, Vi.turn_ct, Vi.turn_er, Vi.turn_nx, Vi.turn_rt, Vi.tyC_e, Vi.tyC_l, Vi.tyC_s, Vi.tyC_t, Vi.wipe_0, Vi.wipe_bad, Vi.wipe_bk, Vi.wipe_c, Vi.wipe_ct, Vi.wipe_er, Vi.wipe_nx, Vi.wipe_rt, Vi.x_C, Vi.x_and, Vi.x_app, Vi.x_asg, Vi.x_bin, Vi.x_brk, Vi.x_call, Vi.x_cel, Vi.x_chain, Vi.x_cnt, Vi.x_cons, Vi.x_dats0, Vi.x_datsS, Vi.x_dead, Vi.x_drop, Vi.x_frz, Vi.x_if, Vi.x_ifS, Vi.x_isE, Vi.x_isi, Vi.x_it, Vi.x_ita, Vi.x_kAnd, Vi.x_kChain, Vi.x_kNeg, Vi.x_kNot, Vi.x_kOr, Vi.x_kPar, Vi.x_kTest, Vi.x_lst, Vi.x_meth, Vi.x_neg, Vi.x_next, Vi.x_nil, Vi.x_noPart, Vi.x_not, Vi.x_ok, Vi.x_one, Vi.x_or, Vi.x_par, Vi.x_partG, Vi.kPart_i, Vi.tkM, Vi.dpM, Vi.rvM, Vi.cut_tn, Vi.cut_dn, Vi.cut_tn1, Vi.cut_dn1, Vi.cut_mapS, Vi.cut_d1, Vi.cut_t1, Vi.rev_t, Vi.rev_l, Vi.x_par, Vi.x_kPar, Vi.x_parN, Vi.kParN_0, Vi.kParN_c, List.length_map, Vi.toDat_e, Vi.tup_r, Vi.frz_r, Vi.it_r, List.mem_singleton, List.mem_cons, true_or, or_true, Vi.x_raise, Vi.x_ret, Vi.x_retN, Vi.x_rev, Vi.x_seq, Vi.x_set, Vi.x_sl, Vi.x_store, Vi.x_tAnd, Vi.x_tNot, Vi.x_tOr, Vi.x_test, Vi.x_tup, Vi.x_two, Vi.x_var0, Vi.x_varS, Vi.x_yes, Vi.st_ok', Vi.Out.st_er, Vi.Out.st_bad, Vi.kAsg, Vi.asgT, Vi.asgTs, List.set_cons_succ, List.set_cons_zero, List.map_cons, List.map_nil, List.length_cons, List.length_nil, List.replicate, List.cons_append, List.nil_append, Nat.reduceAdd, Nat.reduceSub, Int.reduceAdd, Int.reduceSub, Int.reduceMul, Int.reduceNeg, if_true, if_false, reduceIte, Bool.not_true, Bool.not_false, Bool.false_eq_true, Bool.true_and, Bool.false_and, Bool.and_true, Bool.and_false, Bool.true_or, Bool.false_or, Bool.or_true, Bool.or_false, decide_true, decide_false, beq_self_eq_true, $[$ts:term],*])
local macro_rules
  | `(tactic| walk_at "st") => `(tactic| wp_walk using "st", id_eq)
local macro_rules
  | `(tactic| walk_at "src") => `(tactic| first | exact src_tup_of _ _ | exact src_list_of _ _ | exact src_rn _ | exact src_en_l _ _ | exact src_en_t _ _ | exact src_z_ll _ _ _ _ | exact src_z_lt _ _ _ _ | exact src_z_tl _ _ _ _ | exact src_z_tt _ _ _ _ | exact src_ri _ _ | exact src_id_t _ | exact src_id_l _)
local macro_rules
  | `(tactic| walk_at "hz") => `(tactic| first | (simp only [size_is, List.length_range, List.length_map, List.length_zipIdx, List.length_zip]; omega) | (simp [size_is]; omega) | (simp [size_is]; done) | exact Nat.le_trans (List.length_filter_le _ _) (by simp [size_is]; omega))
local macro_rules
  | `(tactic| wp_walk using "ev", $ts,*) => `(tactic| first | (simp [$[$ts:term],*, -List.map_tail, -List.drop_one, -List.map_drop, -List.map_take, -List.map_reverse, -List.all_eq_true, -List.any_eq_true, -List.getD_eq_getElem?_getD]; done) | (simp [$[$ts:term],*, -List.map_tail, -List.drop_one, -List.map_drop, -List.map_take, -List.map_reverse, -List.all_eq_true, -List.any_eq_true, -List.getD_eq_getElem?_getD]; exact rfl) | (simp [$[$ts:term],*, -List.map_tail, -List.drop_one, -List.map_drop, -List.map_take, -List.map_reverse, -List.all_eq_true, -List.any_eq_true, -List.getD_eq_getElem?_getD]; exact kRng1_n (by omega)) | (simp [$[$ts:term],*, -List.map_tail, -List.drop_one, -List.map_drop, -List.map_take, -List.map_reverse, -List.all_eq_true, -List.any_eq_true, -List.getD_eq_getElem?_getD]; exact kRng1_i (by omega) (by omega)) | (simp [$[$ts:term],*, -List.map_tail, -List.drop_one, -List.map_drop, -List.map_take, -List.map_reverse, -List.all_eq_true, -List.any_eq_true, -List.getD_eq_getElem?_getD]; exact kRng2_i (by omega) (by omega) (by omega) (by omega)))
local macro_rules
  | `(tactic| wp_walk using "lc", $ts,*) => `(tactic| (
      rw [lc_y ?hi ?hs ?hz ?hx]
      (case hi => wp_walk using "ev", $ts,*)
      (case hs => walk_at "src")
      (case hz => walk_at "hz")
      (case hx => (intro a ha; refine ⟨_, rfl, fun g => ?_⟩; wp_walk using "ev", $ts,*))))
local macro_rules
  | `(tactic| wp_walk using "lcp", $ts,*) => `(tactic| (
      rw [lc_p ?hi ?hs ?hz ?ht ?hx]
      (case hi => wp_walk using "ev", $ts,*)
      (case hs => walk_at "src")
      (case hz => walk_at "hz")
      (case ht => (intro a ha; refine ⟨_, rfl, fun g => ?_⟩; wp_walk using "ev", $ts,*))
      (case hx => (intro a ha hp; refine ⟨_, rfl, fun g => ?_⟩; wp_walk using "ev", $ts,*))))
local macro_rules
  | `(tactic| wp_walk using "s", $ts,*) => `(tactic| simp [$[$ts:term],*, -List.map_tail, -List.drop_one, -List.map_drop, -List.map_take, -List.map_reverse, -List.all_eq_true, -List.any_eq_true, -List.getD_eq_getElem?_getD])
local macro_rules
  | `(tactic| walk_at "s") => `(tactic| simp [-List.map_tail, -List.drop_one, -List.map_drop, -List.map_take, -List.map_reverse, -List.all_eq_true, -List.any_eq_true, -List.getD_eq_getElem?_getD])
local macro_rules
  | `(tactic| walk_at "lc") => `(tactic| wp_walk using "lc", id_eq)
local macro_rules
  | `(tactic| walk_at "lcp") => `(tactic| wp_walk using "lcp", id_eq)
local macro_rules
  | `(tactic| wp_walk using "lcx", $t, $ts,*) => `(tactic| (
      rw [lc_yE ?hi ?hs ?hz ?hE ?hx]
      (case hi => wp_walk using "ev", $ts,*)
      (case hs => walk_at "src")
      (case hE => exact fun a ha => rfl)
      (case hx => exact $t)
      (case hz => walk_at "hz")))
local macro_rules
  | `(tactic| wp_walk using "lcpx", $u, $t, $ts,*) => `(tactic| (
      rw [lc_pE ?hi ?hs ?hz ?hE ?ht ?hx]
      (case hi => wp_walk using "ev", $ts,*)
      (case hs => walk_at "src")
      (case hE => exact fun a ha => rfl)
      (case ht => exact $u)
      (case hx => exact $t)
      (case hz => walk_at "hz")))
local macro_rules
  | `(tactic| wp_walk using "lc2", $t, $ts,*) => `(tactic| (
      rw [lc2_yE ?hi ?hs ?hE ?hi1 ?hs1 ?hE2 ?hz ?hx]
      (case hi => wp_walk using "ev", $ts,*)
      (case hs => walk_at "src")
      (case hE => exact fun a ha => rfl)
      (case hi1 => (intro a ha g; wp_walk using "ev", $ts,*))
      (case hs1 => (intro a ha; walk_at "src"))
      (case hE2 => exact fun a ha b hb => rfl)
      (case hx => exact $t)))
local macro_rules
  | `(tactic| wp_walk using "lc2p", $u, $t, $ts,*) => `(tactic| (
      rw [lc2_pE ?hi ?hs ?hE ?hi1 ?hs1 ?hE2 ?hz ?ht ?hx]
      (case hi => wp_walk using "ev", $ts,*)
      (case hs => walk_at "src")
      (case hE => exact fun a ha => rfl)
      (case hi1 => (intro a ha g; wp_walk using "ev", $ts,*))
      (case hs1 => (intro a ha; walk_at "src"))
      (case hE2 => exact fun a ha b hb => rfl)
      (case ht => exact $u)
      (case hx => exact $t)))
local macro_rules
  | `(tactic| wp_walk using "lci", $i, $t) => `(tactic| (
      rw [lc_yE ?hi ?hs ?hz ?hE ?hx]
      (case hi => exact $i)
      (case hs => walk_at "src")
      (case hE => exact fun a ha => rfl)
      (case hx => exact $t)
      (case hz => walk_at "hz")))
local macro_rules
  | `(tactic| wp_walk using "lcpi", $i, $u, $t) => `(tactic| (
      rw [lc_pE ?hi ?hs ?hz ?hE ?ht ?hx]
      (case hi => exact $i)
      (case hs => walk_at "src")
      (case hE => exact fun a ha => rfl)
      (case ht => exact $u)
      (case hx => exact $t)
      (case hz => walk_at "hz")))
/-! sums and rests -/
local macro_rules
  | `(tactic| walk_at "ar") => `(tactic| (try simp); (repeat (first | (rw [mul_r (by decide)]; simp) | (rw [mul_l (by decide)]; simp) | (rw [mod_ii (by decide)]; simp) | (rw [div_ii (by decide) (log_small (by decide) (by decide))]; simp) | (rw [pow_ii (by decide)]; simp) | (rw [mul_l (mod_small (by decide) (by decide))]; simp))))
local macro_rules
  | `(tactic| wp_walk using "lcf", $f, $t, $ts,*) => `(tactic| (
      rw [lc_yE (f := $f) ?hi ?hs ?hz ?hE ?hx]
      (case hi => wp_walk using "ev", $ts,*)
      (case hs => walk_at "src")
      (case hE => exact fun a ha => rfl)
      (case hx => exact $t)
      (case hz => walk_at "hz")))
namespace K56
open Bas
theorem is_first : dRel.IsMin (3, [1, 0]) ((allO 2).map fun r => (sumR [[3, 1], [2, 2]] r, r)) := by
  refine ⟨?_, ?_⟩
  · have : ((allO 2).map fun r => (sumR [[3, 1], [2, 2]] r, r)).contains (3, [1, 0]) = true := by kernel_rfl
    exact List.contains_iff_mem.mp this
  · have : ((allO 2).map fun r => (sumR [[3, 1], [2, 2]] r, r)).all (fun y => !dRel.lt y (3, [1, 0])) = true := by kernel_rfl
    intro y hy
    have := List.all_eq_true.mp this y hy
    simpa using this
theorem law_true (ns : List Int) (hl : ns.length ≤ 63) (hb : ∀ z ∈ ns, Builtin.Int.intBits z ≤ 1048576) : ∀ v, IsScr ns v → ∃ h, m_law [v] [] = .ok (.dat (.bool true)) h := by
  intro v hv
  obtain ⟨c, e0, hc⟩ := hand_of hv hl
  have H : Ts [[3, 1], [2, 2]] 2 := ⟨rfl, by decide, by decide, by decide, by decide⟩
  obtain ⟨m, B, m1, F, _⟩ := p_relay_told H
  have em : m = (3, [1, 0]) := DT.IsMin.uniq (show dRel.IsMin m ((allO 2).map fun r => (sumR [[3, 1], [2, 2]] r, r)) from B) is_first fun x => Iff.rfl
  have s1 := F 3 (by decide)
  have t1 := p_is_told H 2 (by decide) (.tuple [.str "prices", .tuple [.int 1, .int 2], .tuple [.int 0, .int 0]])
  rw [show toldB [[3, 1], [2, 2]] 2 2 (.tuple [.str "prices", .tuple [.int 1, .int 2], .tuple [.int 0, .int 0]]) = true from by kernel_rfl] at t1
  rw [em] at m1 s1
  have m1 : ∀ g, m_best_relay [.dat (.tuple [.tuple [.int 3, .int 1], .tuple [.int 2, .int 2]])] g = .ok (.dat (.tuple [.int 3, .tuple [.int 1, .int 0]])) g := m1
  have s1 : ∀ g, m_relay_told [.dat (.tuple [.tuple [.int 3, .int 1], .tuple [.int 2, .int 2]]), .dat (.int 3)] g = .ok (.dat (.tuple [.str "relay", .tuple [.int 1, .int 0]])) g := s1
  have t1 : ∀ g, m_is_relay_told [.dat (.tuple [.tuple [.int 3, .int 1], .tuple [.int 2, .int 2]]), .dat (.int 2), .dat (.tuple [.str "prices", .tuple [.int 1, .int 2], .tuple [.int 0, .int 0]])] g = .ok (.dat (.bool true)) g := t1
  have i1 := fun g => is_same 40 (.list [.tuple [.int 3, .tuple [.int 1, .int 0]], .tuple [.str "relay", .tuple [.int 1, .int 0]], .bool true]) rfl g
  unfold m_law mFun b_law
  wp_walk using "st", e0, m1, s1, t1, i1
  rw [mFor_is (h1 := [c]) (s := .rng 0 1 3) (xs := (List.range 3).map fun (i : Nat) => .int (i : Nat)) (by walk_at "st"; exact kRng1_n (n := 3) (by decide)) (src_rn 3)]
  generalize Option.some (Val.dat (.list [.tuple [.int 3, .tuple [.int 1, .int 0]], .tuple [.str "relay", .tuple [.int 1, .int 0]], .bool true])) = o3
  obtain ⟨e9, h9, q, o2, c', cs', rfl, rfl, hc', hf'⟩ := forL_inv (tg := .nm 4) (b := L_law_1)
    (fun _ env h => ∃ (o2 : Option Val) (c' : Cell) (cs' : Hep), env = [some v, some (.ref 0), o2, o3, none, none, none, none, none, none, none, none] ∧ h = c' :: cs' ∧ Hd c' ∧ Flat cs') (by
      rintro d ds env h ⟨o2, c', cs', rfl, rfl, hc, hf⟩
      obtain ⟨c2, cs2, hc2, hf2, e⟩ := law_turn v d o2 o3 hc hf
      exact ⟨_, rfl, _, _, .inl e, none, c2, cs2, rfl, rfl, hc2, hf2⟩) (xs := (List.range 3).map fun (i : Nat) => .int (i : Nat)) ⟨_, c, [], rfl, rfl, hc, flat_0⟩
  rw [q]
  walk_at "st"
  unfold leave
  rw [if_pos (show (Val.dat (PyData.bool true)).closed _ from trivial)]
  exact ⟨_, rfl⟩
end K56
end K56cc_

section K56f_
set_option linter.all false
set_option maxRecDepth 100000
set_option Elab.async false
open PySem PySem.W PySem.Calls PyProof.Rows
set_option maxHeartbeats 0 in
theorem PySem.Challenge.cw_schoolyear_k56_whole_relays_or_prices_holds : PySem.Challenge.rw_schoolyear_k56_whole_relays_or_prices.Holds := by
  w_on; o_law
  refine HandSHeadRun.head_any (r := OpenLaw.row PySem.Challenge.rw_schoolyear_k56_whole_relays_or_prices) (q := view (OpenLaw.row PySem.Challenge.rw_schoolyear_k56_whole_relays_or_prices).prog [39]) (H := K56.hk) (ob := K56.ob) (M := 4000) (loose := K56.loose) (d := HandSHeadRun.topDef (OpenLaw.row PySem.Challenge.rw_schoolyear_k56_whole_relays_or_prices).prog 39) (kwd := []) K56.ob_eq
    (by kernel_rfl) (fun s => by kernel_rfl) K56.run (by kernel_rfl) (by kernel_rfl) (by kernel_rfl) (by rfl) (by first | assumption | decide +kernel) (by decide +kernel) ⟨rfl, rfl, rfl, rfl, rfl, by decide +kernel⟩ ?hw ?hc
  case hw => w_witness2
  case hc =>
    refine LamX.walk_ofTsE (l := PySem.Challenge.rw_schoolyear_k56_whole_relays_or_prices) (n := 63) (k := 45) (x := "script") (CX := fun w => L2.CX (PySem.Challenge.rw_schoolyear_k56_whole_relays_or_prices).prog w) rfl (by decide) (by kernel_rfl) ⟨rfl, by decide, by decide⟩ ?F ?E
    case E =>
      intro w H s e s' h
      obtain ⟨_, _, _, _, _, _, _, _, _, _, _, _, z⟩ := h
      exact z.elim
    case F =>
      intro w mg fa h Y G hmg0
      obtain ⟨K, KX, c⟩ := Y
      have F := K56.fx KX G c
      have hmg : mg ("law" : PySem.Str) = some (.ref fa) := by
        have e : (HandSHeadRun.topDef (OpenLaw.row PySem.Challenge.rw_schoolyear_k56_whole_relays_or_prices).prog 39).name = ("law" : PySem.Str) := by kernel_rfl
        rw [← e]
        exact hmg0
      rw [F.g_law] at hmg
      cases hmg
      obtain ⟨fd, D⟩ := F.d_law
      refine ⟨K, KX, fd, Vi.TC K K56.makers, Vi.spM K mg (Vi.TT K K56.makers) 1 K56.m_law, ?_, ?_, ?_, fun s v => L2.FunD.bindsA (ps := ["script"]) D (fun _ _ _ _ _ _ us hl => match us, hl with | [_], _ => rfl) s [v] rfl, fun H a ns hl hb hT hS => Vi.sp_law hT hS (K56.law_true ns hl hb), fun base hKb hns hT => K56.ok_law F hT D⟩
      · intro p hp
        obtain ⟨r, hr, rfl⟩ := List.mem_map.mp hp
        exact c.empty (r.1, none) (K56.mk_tf r hr)
      · intro p hp
        obtain ⟨r, hr, rfl⟩ := List.mem_map.mp hp
        exact c.out (r.1, none) (K56.mk_tf r hr)
      · intro p hp
        obtain ⟨r, hr, rfl⟩ := List.mem_map.mp hp
        exact PySem.W.codeHd_of_K KX (c.hd (r.1, none) (K56.mk_tf r hr))
end K56f_
