import PyProof.Rows.All
import Wide.All
import OpenK.AllK
import Wide.FinOn
import HandS.ForMost
import HandS.ForExc
import HandS.WordsExc
import HandS.Lambda
import HandS.ExcCtx
import KE.DataCmp
import KE.SortData
import KE.KDictKeyed
import HandS.TupAny
import HandS.Style
import HandS.IsInst
import HandS.Deep
import HandS.RevRange
import HandS.Conv
import KE.GoesEnum
import HandS.Strs
import HandS.SetFor
import HandS.Dict
import HandS.SetKeys
import HandS.Small
import KE.KDictList
import KE.KDictWalk
import HandS.Struct
import HandS.Hot
import HandS.HotCalls
import KE.KDictZip
import HandS.ExcInit
import HandS.ExcField
import HandS.New
import KE.KStateDown
import HandS.Head0
import HandS.Head1
import HandS.Head2
import HandS.Head3
import HandS.HeadEnd
import HandS.HeadHook1
import HandS.HeadHook2
import HandS.HeadHook3
import HandS.HeadHook4
import HandS.HeadWalk
import HandS.NestedK
import PySem.Challenge.RW_stoodthere_k63_whole_floors
set_option Elab.async false
set_option linter.all false
set_option maxRecDepth 100000
/-! DL1: data, mutable objects, the state by data; lifted readings. -/
namespace DL
open PySem PySem.Spec PyProof.Rows L2

/-- a value as a proof sees it: a datum, or the address of a mutable object -/
inductive D where
  | dat (p : PyData)
  | ref (a : Addr)
  /-- an exception that is held: where it stands, where its fields stand, its fields -/
  | exn (a d : Addr) (word : Str) (num : Int)
/-- a mutable object -/
inductive MO where
  | lst (ds : List D)
  | dct (kvs : List (Key × D))
  /-- a list that is read alone -/
  | frz (ds : List D)
  /-- a table, its keys tuples of atoms and of such tuples -/
  | tab (w : World) (kvs : List (PyData × PyData))
  /-- a def's table of code objects, each of the name q -/
  | cod (q : Str)
abbrev Mp := Addr → Option MO
def updM (M : Mp) (a : Addr) (o : MO) : Mp := fun b => if b = a then some o else M b
theorem updM_same {M : Mp} {a : Addr} {o : MO} : updM M a o a = some o := by unfold updM; rw [if_pos rfl]
theorem updM_ne {M : Mp} {a b : Addr} {o : MO} (h : b ≠ a) : updM M a o b = M b := by unfold updM; rw [if_neg h]
def M0 : Mp := fun _ => none
/-- addresses that are not to be seen -/
abbrev Hid := Addr → Bool
/-- what stands still -/
def Imm (M : Mp) (S : Hid) (H : Hp) : Hp := fun b => if (M b).isSome || S b then none else H b
theorem imm_some {M : Mp} {S : Hid} {H : Hp} {b : Addr} {o : HO} : Imm M S H b = some o ↔ M b = none ∧ S b = false ∧ H b = some o := by
  unfold Imm
  cases hM : M b <;> cases hS : S b <;> simp
mutual
inductive Dq (H : Hp) : V → PyData → Prop
  | non : Dq H .non .none
  | bl (b : Bool) : Dq H (.bl b) (.bool b)
  | int (i : Int) : Dq H (.int i) (.int i)
  | str (x : Str) : Dq H (.str x) (.str x)
  | lst {a : Addr} {xs : List V} {ds : List PyData} : H a = some (.lst xs) → DqAll H xs ds → Dq H (.ref a) (.list ds)
  | tup {a : Addr} {xs : List V} {ds : List PyData} : H a = some (.tup xs) → DqAll H xs ds → Dq H (.ref a) (.tuple ds)
inductive DqAll (H : Hp) : List V → List PyData → Prop
  | nil : DqAll H [] []
  | cons {v : V} {vs : List V} {d : PyData} {ds : List PyData} : Dq H v d → DqAll H vs ds → DqAll H (v :: vs) (d :: ds)
end
section
variable {K : PySem.W.Frag} {H : Hp}
mutual
theorem Dq_dp : ∀ (d : PyData) (v : V), Dq H v d → Dp K H v d
  | .none, _, h => by cases h; exact .non
  | .bool b, _, h => by cases h; exact .bl b
  | .int i, _, h => by cases h; exact .int i
  | .str x, _, h => by cases h; exact .str x
  | .list ds, _, h => by
    cases h with
    | lst hs ha => exact .lst (.of hs) (DqAll_dp ds _ ha)
  | .tuple ds, _, h => by
    cases h with
    | tup hs ha => exact .tup (.of hs) (DqAll_dp ds _ ha)
  | .dict _, _, h => by cases h
theorem DqAll_dp : ∀ (ds : List PyData) (vs : List V), DqAll H vs ds → DpAll K H vs ds
  | [], _, h => by cases h; exact .nil
  | d :: ds, _, h => by
    cases h with
    | cons h1 h2 => exact .cons (Dq_dp d _ h1) (DqAll_dp ds _ h2)
end
end
/-- the fields of an exception of the package -/
def xdF (word : Str) (num : Int) : HO := .xd [("at", .int num), ("word", .str word)]
def DV (H : Hp) : V → D → Prop
  | v, .dat p => Dq H v p
  | v, .ref a => v = .ref a
  | v, .exn a d w n => v = .ref a ∧ H d = some (xdF w n)
abbrev DVs (H : Hp) : List V → List D → Prop := Paired (DV H)

section
variable {H H' : Hp}
mutual
theorem Dq_mono (e : Same H H') : ∀ (d : PyData) (v : V), Dq H v d → Dq H' v d
  | .none, _, h => by cases h; exact .non
  | .bool b, _, h => by cases h; exact .bl b
  | .int i, _, h => by cases h; exact .int i
  | .str x, _, h => by cases h; exact .str x
  | .list ds, _, h => by
    cases h with
    | lst hs ha => exact .lst (e _ _ hs) (DqAll_mono e ds _ ha)
  | .tuple ds, _, h => by
    cases h with
    | tup hs ha => exact .tup (e _ _ hs) (DqAll_mono e ds _ ha)
  | .dict _, _, h => by cases h
theorem DqAll_mono (e : Same H H') : ∀ (ds : List PyData) (vs : List V), DqAll H vs ds → DqAll H' vs ds
  | [], _, h => by cases h; exact .nil
  | d :: ds, _, h => by
    cases h with
    | cons h1 h2 => exact .cons (Dq_mono e d _ h1) (DqAll_mono e ds _ h2)
end
theorem DV.mono (e : Same H H') {v : V} {d : D} (h : DV H v d) : DV H' v d := by
  cases d with
  | dat p => exact Dq_mono e p v h
  | ref a => exact h
  | exn a d w n => exact ⟨h.1, e _ _ h.2⟩
theorem DVs.mono (e : Same H H') {vs : List V} {ds : List D} (h : DVs H vs ds) : DVs H' vs ds := Paired.mapP h fun _ _ q => q.mono e
/-- lists of data -/
def datsOf : List D → Option (List PyData)
  | [] => some []
  | .dat p :: r => (datsOf r).map (p :: ·)
  | .ref _ :: _ => none
  | .exn _ _ _ _ :: _ => none
theorem DVs.dats : ∀ {vs : List V} {ds : List D} {ps : List PyData}, DVs H vs ds → datsOf ds = some ps → DqAll H vs ps
  | _, _, _, .nil, h => by cases h; exact .nil
  | _, .dat p :: r, ps, .cons h1 h2, h => by
    unfold datsOf at h
    cases e : datsOf r with
    | none => rw [e] at h; cases h
    | some qs =>
      rw [e] at h; cases h
      exact .cons h1 (DVs.dats h2 e)
  | _, .ref _ :: _, _, .cons _ _, h => by cases h
  | _, .exn _ _ _ _ :: _, _, .cons _ _, h => by cases h
theorem DqAll.dvs : ∀ {vs : List V} {ps : List PyData}, DqAll H vs ps → DVs H vs (ps.map .dat)
  | _, [], h => by cases h; exact .nil
  | _, p :: ps, h => by
    cases h with
    | cons h1 h2 => exact .cons h1 (DqAll.dvs h2)
theorem datsOf_map (ps : List PyData) : datsOf (ps.map .dat) = some ps := by
  induction ps with
  | nil => rfl
  | cons p ps ih => show (datsOf (ps.map .dat)).map (p :: ·) = _; rw [ih]; rfl
theorem DqAll.length : ∀ {vs : List V} {ps : List PyData}, DqAll H vs ps → vs.length = ps.length
  | _, [], h => by cases h; rfl
  | _, p :: ps, h => by
    cases h with
    | cons h1 h2 => rw [List.length_cons, List.length_cons, DqAll.length h2]
end

mutual
/-- a datum as a key -/
def nk : PyData → Option NestedKey
  | .none => some .none
  | .bool b => some (.num (if b = true then 1 else 0))
  | .int i => some (.num i)
  | .str x => some (.text x)
  | .tuple ps => (nks ps).map .tup
  | .list _ => none
  | .dict _ => none
def nks : List PyData → Option (List NestedKey)
  | [] => some []
  | p :: ps => match nk p, nks ps with
    | some k, some ks => some (k :: ks)
    | _, _ => none
end
/-- a table as it stands -/
def TabO (w : World) (a : Addr) (xs : List (NestedKey × Addr × Value)) : HO := .ext fun h => (a == sysModules) = false ∧ (xs.map (·.1)).Nodup ∧ ∃ o es ep, h.get? a = some o ∧ o.ExactDict ∧ o.data = .dict es ep ∧ es.toList = xs.map fun x => ⟨x.1.hash w, .ref x.2.1, x.2.2⟩
def TabRow (HI : Hp) (x : NestedKey × Addr × Value) (q : PyData × PyData) : Prop := (nk q.1 = some x.1 ∧ x.1.depth ≤ 8) ∧ Dq HI (.ref x.2.1) q.1 ∧ ∃ v, RelV v x.2.2 ∧ Dq HI v q.2
/-- the object at a -/
def RepO (HI H : Hp) (a : Addr) : MO → Prop
  | .lst ds => ∃ vs, H a = some (.lst vs) ∧ DVs HI vs ds
  | .frz ds => ∃ o vs, H a = some (.frz o (.lst vs)) ∧ DVs HI vs ds
  | .dct kvs => ∃ kv', H a = some (.dK kv') ∧ Paired (fun (p : Key × V) (q : Key × D) => p.1 = q.1 ∧ DV HI p.2 q.2) kv' kvs
  | .tab w kvs => ∃ xs, H a = some (TabO w a xs) ∧ Paired (TabRow HI) xs kvs
  | .cod q => ∃ ps : Array Value, H a = some (.tbl ps) ∧ TriplesOk ps.toList ∧ ∀ (pos : Pos) (cv : Value), codeAmong pos ps.toList = some cv → ∃ c, cv = .ref c ∧ HI c = some (LamX.CodeO c q)
/-- a thing that is no tuple stands there -/
def Lsty : Option HO → Prop
  | some (.tup _) => False
  | some _ => True
  | none => False
theorem Lsty.ne {o : Option HO} (h : Lsty o) : o ≠ none := by intro e; rw [e] at h; exact h
theorem Lsty.same {H H' : Hp} (e : Same H H') {a : Addr} (h : Lsty (H a)) : Lsty (H' a) := by
  cases q : H a with
  | none => rw [q] at h; exact h.elim
  | some o => rw [e a o q]; rw [q] at h; exact h
structure RepM (S : Hid) (M : Mp) (H : Hp) : Prop where
  obj : ∀ a o, M a = some o → RepO (Imm M S H) H a o
  hid : ∀ a, S a = true → M a = none ∧ Lsty (H a)
/-- all that is not in M stays; what is new in M is new -/
def Grow (M : Mp) (H : Hp) (M' : Mp) (H' : Hp) : Prop := ∀ b o, M b = none → H b = some o → M' b = none ∧ H' b = some o
theorem Grow.refl {M : Mp} {H : Hp} : Grow M H M H := fun _ _ h1 h2 => ⟨h1, h2⟩
theorem Grow.trans {M M1 M2 : Mp} {H H1 H2 : Hp} (a : Grow M H M1 H1) (b : Grow M1 H1 M2 H2) : Grow M H M2 H2 := fun c o h1 h2 =>
  let ⟨e1, e2⟩ := a c o h1 h2
  b c o e1 e2
theorem Grow.imm {M M' : Mp} {H H' : Hp} (g : Grow M H M' H') (S : Hid) : Same (Imm M S H) (Imm M' S H') := fun b o h => by
  obtain ⟨h1, h2, h3⟩ := imm_some.mp h
  obtain ⟨e1, e2⟩ := g b o h1 h3
  exact imm_some.mpr ⟨e1, h2, e2⟩
theorem imm_sub {M : Mp} {S : Hid} {H : Hp} : Same (Imm M S H) H := fun b o h => (imm_some.mp h).2.2
theorem Grow.same {M : Mp} {H H' : Hp} (e : Same H H') : Grow M H M H' := fun b o h1 h2 => ⟨h1, e b o h2⟩
section
variable {S : Hid} {M : Mp} {H H' : Hp} {p a : Addr}
theorem RepO.mono {HI HI' : Hp} {o : MO} (e : Same HI HI') (ea : ∀ u, H a = some u → H' a = some u) (h : RepO HI H a o) : RepO HI' H' a o := by
  cases o with
  | lst ds => obtain ⟨vs, h1, h2⟩ := h; exact ⟨vs, ea _ h1, DVs.mono e h2⟩
  | dct kvs => obtain ⟨vs, h1, h2⟩ := h; exact ⟨vs, ea _ h1, Paired.mapP h2 fun _ _ q => ⟨q.1, q.2.mono e⟩⟩
  | frz ds => obtain ⟨o, vs, h1, h2⟩ := h; exact ⟨o, vs, ea _ h1, DVs.mono e h2⟩
  | tab w kvs => obtain ⟨xs, h1, h2⟩ := h; exact ⟨xs, ea _ h1, Paired.mapP h2 fun _ _ ⟨q1, q2, v, q3, q4⟩ => ⟨q1, Dq_mono e _ _ q2, v, q3, Dq_mono e _ _ q4⟩⟩
  | cod q => obtain ⟨ps, h1, h2, h3⟩ := h; exact ⟨ps, ea _ h1, h2, fun pos cv hc => let ⟨c, e1, e2⟩ := h3 pos cv hc; ⟨c, e1, e _ _ e2⟩⟩
theorem RepO.some {HI : Hp} {o : MO} (h : RepO HI H a o) : ∃ u, H a = some u := by
  cases o with
  | lst ds => obtain ⟨vs, h1, h2⟩ := h; exact ⟨_, h1⟩
  | dct kvs => obtain ⟨vs, h1, h2⟩ := h; exact ⟨_, h1⟩
  | frz ds => obtain ⟨o, vs, h1, h2⟩ := h; exact ⟨_, h1⟩
  | tab w kvs => obtain ⟨xs, h1, h2⟩ := h; exact ⟨_, h1⟩
  | cod q => obtain ⟨xs, h1, h2⟩ := h; exact ⟨_, h1⟩
theorem RepM.free (r : RepM S M H) (h : H p = none) : M p = none := by
  cases e : M p with
  | none => rfl
  | some o =>
    obtain ⟨u, hu⟩ := (r.obj p o e).some
    rw [h] at hu; cases hu
theorem RepM.hidF (r : RepM S M H) (h : H p = none) : S p = false := by
  cases e : S p with
  | false => rfl
  | true => exact absurd h (r.hid p e).2.ne
/-- all tracked things stay -/
theorem RepM.same (r : RepM S M H) (e : Same H H') : RepM S M H' := by
  refine ⟨fun a o h => (r.obj a o h).mono (Grow.imm (Grow.same e) S) (fun u hu => e _ _ hu), fun a h => ⟨(r.hid a h).1, (r.hid a h).2.same e⟩⟩
theorem same_upd {o : HO} (h : H p = none) : Same H (upd H p o) := fun b x e => by
  rw [upd_ne (ne_of_none e h)]
  exact e
/-- a new thing that stands still -/
theorem RepM.new (r : RepM S M H) (h : H p = none) (o : HO) : RepM S M (upd H p o) ∧ Grow M H M (upd H p o) ∧ Imm M S (upd H p o) p = some o :=
  ⟨r.same (same_upd h), Grow.same (same_upd h), imm_some.mpr ⟨r.free h, r.hidF h, upd_same⟩⟩
theorem imm_upd {o : MO} {u : HO} (h : (M a).isSome = true) : Imm (updM M a o) S (upd H a u) = Imm M S H := by
  funext b
  unfold Imm
  by_cases e : b = a
  · subst e
    rw [updM_same, h]
    simp
  · rw [updM_ne e, upd_ne e]
/-- a mutable object changes -/
theorem RepM.put (r : RepM S M H) (h : (M a).isSome = true) {o : MO} {u : HO} (n : RepO (Imm M S H) (upd H a u) a o) : RepM S (updM M a o) (upd H a u) ∧ Grow M H (updM M a o) (upd H a u) := by
  refine ⟨⟨fun b o' e => ?_, fun b e => ?_⟩, fun b o' h1 h2 => ?_⟩
  · rw [imm_upd h]
    by_cases z : b = a
    · subst z
      rw [updM_same] at e; cases e
      exact n
    · rw [updM_ne z] at e
      refine (r.obj b o' e).mono (fun _ _ q => q) fun u' q => ?_
      rw [upd_ne z]; exact q
  · obtain ⟨h1, h2⟩ := r.hid b e
    have z : b ≠ a := fun z => by subst z; rw [h1] at h; cases h
    rw [updM_ne z, upd_ne z]
    exact ⟨h1, h2⟩
  · have z : b ≠ a := fun z => by subst z; rw [h1] at h; cases h
    rw [updM_ne z, upd_ne z]
    exact ⟨h1, h2⟩
/-- a new mutable object -/
theorem RepM.newM (r : RepM S M H) (h : H p = none) {o : MO} {u : HO} (n : RepO (Imm M S H) (upd H p u) p o) : RepM S (updM M p o) (upd H p u) ∧ Grow M H (updM M p o) (upd H p u) := by
  have g : Grow M H (updM M p o) (upd H p u) := fun b o' h1 h2 => by
    have z : b ≠ p := ne_of_none h2 h
    rw [updM_ne z, upd_ne z]
    exact ⟨h1, h2⟩
  have im := g.imm S
  refine ⟨⟨fun b o' e => ?_, fun b e => ?_⟩, g⟩
  · by_cases z : b = p
    · subst z
      rw [updM_same] at e; cases e
      exact n.mono im fun _ q => q
    · rw [updM_ne z] at e
      refine (r.obj b o' e).mono im fun u' q => ?_
      rw [upd_ne z]; exact q
  · obtain ⟨h1, h2⟩ := r.hid b e
    have z : b ≠ p := fun z => by subst z; exact h2.ne h
    rw [updM_ne z, upd_ne z]
    exact ⟨h1, h2⟩
end

/-! ### slots -/
abbrev Sd := List (Option D)
def Slots (HI : Hp) (σ : L2.St) (δ : Sd) : Prop := δ.length = σ.length ∧ ∀ (i : Nat) (d : D), δ[i]? = some (some d) → ∃ v, σ[i]? = some (some v) ∧ DV HI v d
structure Rep (S : Hid) (δ : Sd) (M : Mp) (σ : L2.St) (H : Hp) : Prop where
  m : RepM S M H
  s : Slots (Imm M S H) σ δ
section
variable {S : Hid} {M M' : Mp} {H H' HI HI' : Hp} {σ : L2.St} {δ : Sd}
theorem Slots.mono (e : Same HI HI') (h : Slots HI σ δ) : Slots HI' σ δ := ⟨h.1, fun i d q => let ⟨v, h1, h2⟩ := h.2 i d q; ⟨v, h1, h2.mono e⟩⟩
theorem Slots.set (h : Slots HI σ δ) (i : Nat) {v : V} {d : D} (r : DV HI v d) : Slots HI (σ.set i (some v)) (δ.set i (some d)) := by
  refine ⟨by simpa using h.1, fun j e q => ?_⟩
  by_cases z : i = j
  · subst z
    by_cases l : i < δ.length
    · rw [List.getElem?_set_self l] at q
      cases q
      exact ⟨v, by rw [List.getElem?_set_self (by rw [← h.1]; exact l)], r⟩
    · rw [List.getElem?_eq_none (by simpa using l)] at q; cases q
  · rw [List.getElem?_set_ne z] at q
    obtain ⟨u, h1, h2⟩ := h.2 j e q
    exact ⟨u, by rw [List.getElem?_set_ne z]; exact h1, h2⟩
theorem Slots.unset (h : Slots HI σ δ) (i : Nat) (y : Option V) : Slots HI (σ.set i y) (δ.set i none) := by
  refine ⟨by simpa using h.1, fun j e q => ?_⟩
  by_cases z : i = j
  · subst z
    by_cases l : i < δ.length
    · rw [List.getElem?_set_self l] at q; cases q
    · rw [List.getElem?_eq_none (by simpa using l)] at q; cases q
  · rw [List.getElem?_set_ne z] at q
    obtain ⟨u, h1, h2⟩ := h.2 j e q
    exact ⟨u, by rw [List.getElem?_set_ne z]; exact h1, h2⟩
def dwipe (δ : Sd) : List Nat → Sd
  | [] => δ
  | v :: vs => (dwipe δ vs).set v none
theorem Slots.wipe (h : Slots HI σ δ) : ∀ vs : List Nat, Slots HI (L2.wipe σ vs) (dwipe δ vs)
  | [] => h
  | v :: vs => by
    unfold L2.wipe dwipe
    exact Slots.unset (Slots.wipe h vs) v none
theorem Rep.grow (r : Rep S δ M σ H) (g : Grow M H M' H') (m : RepM S M' H') : Rep S δ M' σ H' := ⟨m, r.s.mono (g.imm S)⟩
theorem Rep.set (r : Rep S δ M σ H) (i : Nat) {v : V} {d : D} (q : DV (Imm M S H) v d) : Rep S (δ.set i (some d)) M (σ.set i (some v)) H := ⟨r.m, r.s.set i q⟩
end

/-! ### readings by data -/
abbrev DK := D → Mp → Prop
abbrev DE := Sd → Mp → DK → Prop
abbrev DT := Sd → Mp → (Bool → Mp → Prop) → Prop
abbrev DA := Sd → Mp → (List D → Mp → Prop) → Prop
/-- an exception of the package: its class, its fields -/
structure Xn where
  cls : Addr
  word : Str
  num : Int
structure DEnds where
  nx : Sd → Mp → Prop
  rt : DK
  bk : Sd → Mp → Prop := fun _ _ => False
  ct : Sd → Mp → Prop := fun _ _ => False
  xn : Xn → Sd → Mp → Prop := fun _ _ _ => False
abbrev DS := DEnds → Sd → Mp → Prop

/-- how an answer by data goes on -/
def Fin (S : Hid) (M : Mp) (H : Hp) (Qd : DK) (Q : VK) : Prop :=
  ∀ d M' v H', Grow M H M' H' → RepM S M' H' → DV (Imm M' S H') v d → Qd d M' → Q v H'
def FinT (S : Hid) (M : Mp) (H : Hp) (Qd : Bool → Mp → Prop) (Q : Bool → Hp → Prop) : Prop :=
  ∀ b M' H', Grow M H M' H' → RepM S M' H' → Qd b M' → Q b H'
def FinA (S : Hid) (M : Mp) (H : Hp) (Qd : List D → Mp → Prop) (Q : List V → Hp → Prop) : Prop :=
  ∀ ds M' vs H', Grow M H M' H' → RepM S M' H' → DVs (Imm M' S H') vs ds → Qd ds M' → Q vs H'
def liftE (t : DE) : TE := fun σ H Q => ∃ S δ M Qd, Rep S δ M σ H ∧ t δ M Qd ∧ Fin S M H Qd Q
def liftT (t : DT) : TT := fun σ H Q => ∃ S δ M Qd, Rep S δ M σ H ∧ t δ M Qd ∧ FinT S M H Qd Q
def liftA (t : DA) : TA := fun σ H Q => ∃ S δ M Qd, Rep S δ M σ H ∧ t δ M Qd ∧ FinA S M H Qd Q
/-- what may be wished of the exceptions of X -/
def Wc (X : Cx) : WX := fun cls d σ H => ∀ u s', L2N.XE X (fun c' d' σ' H' => c' = cls ∧ d' = d ∧ σ' = σ ∧ H' = H) u s' → X.xe u s'
theorem takes_c (X : Cx) : L2N.Takes X (Wc X) := fun u s' ⟨a, B, sI, pins, σ, H, cls, d, e, I, nb, up, sky, na, os, ag, w⟩ => w u s' ⟨a, B, sI, pins, σ, H, cls, d, e, I, nb, up, sky, na, os, ag, rfl, rfl, rfl, rfl⟩
theorem Wc.of {X : Cx} {W : WX} (tk : L2N.Takes X W) {cls : Value} {d : Option Addr} {σ : L2.St} {H : Hp} (w : W cls d σ H) : Wc X cls d σ H := fun u s' ⟨a, B, sI, pins, σ', H', cls', d', e, I, nb, up, sky, na, os, ag, e1, e2, e3, e4⟩ => by
  subst e1 e2 e3 e4
  exact tk u s' ⟨a, B, sI, pins, σ', H', cls', d', e, I, nb, up, sky, na, os, ag, w⟩
/-- nothing is let out -/
theorem takesN0 {X : Cx} : L2N.Takes X (fun _ _ _ _ => False) := fun u s' ⟨a, B, sI, pins, σ, H, cls, d, e, I, nb, up, sky, na, os, ag, w⟩ => w.elim
theorem passN {X : Cx} : Passes (L2N.CX X.prog X.w) X E0 := fun _ _ _ _ _ _ _ ⟨_, _, _, _, _, _, _, _, _, _, _, _, z⟩ => z.elim
structure EndsOk (W : WX) (S : Hid) (M : Mp) (H : Hp) (Ed : DEnds) (E : Ends) : Prop where
  nx : ∀ δ' M' σ' H', Grow M H M' H' → Rep S δ' M' σ' H' → Ed.nx δ' M' → E.nx σ' H'
  rt : Fin S M H Ed.rt E.rt
  bk : ∀ δ' M' σ' H', Grow M H M' H' → Rep S δ' M' σ' H' → Ed.bk δ' M' → E.bk σ' H'
  ct : ∀ δ' M' σ' H', Grow M H M' H' → Rep S δ' M' σ' H' → Ed.ct δ' M' → E.ct σ' H'
  xn : ∀ (x : Xn) (d : Addr) δ' M' σ' H', Grow M H M' H' → Rep S δ' M' σ' H' → Imm M' S H' d = some (xdF x.word x.num) → Ed.xn x δ' M' → W (.ref x.cls) (some d) σ' H'
def liftS (W : WX) (t : DS) : TS := fun E σ H => ∃ S δ M Ed, Rep S δ M σ H ∧ t Ed δ M ∧ EndsOk W S M H Ed E
section
variable {S : Hid} {M M' : Mp} {H H' : Hp}
theorem Fin.grow {Qd : DK} {Q : VK} (f : Fin S M H Qd Q) (g : Grow M H M' H') : Fin S M' H' Qd Q := fun d M2 v H2 g2 => f d M2 v H2 (g.trans g2)
theorem FinT.grow {Qd : Bool → Mp → Prop} {Q : Bool → Hp → Prop} (f : FinT S M H Qd Q) (g : Grow M H M' H') : FinT S M' H' Qd Q := fun d M2 H2 g2 => f d M2 H2 (g.trans g2)
theorem FinA.grow {Qd : List D → Mp → Prop} {Q : List V → Hp → Prop} (f : FinA S M H Qd Q) (g : Grow M H M' H') : FinA S M' H' Qd Q := fun d M2 v H2 g2 => f d M2 v H2 (g.trans g2)
theorem EndsOk.grow {W : WX} {Ed : DEnds} {E : Ends} (f : EndsOk W S M H Ed E) (g : Grow M H M' H') : EndsOk W S M' H' Ed E :=
  ⟨fun δ' M2 σ' H2 g2 => f.nx δ' M2 σ' H2 (g.trans g2), f.rt.grow g, fun δ' M2 σ' H2 g2 => f.bk δ' M2 σ' H2 (g.trans g2), fun δ' M2 σ' H2 g2 => f.ct δ' M2 σ' H2 (g.trans g2), fun x d δ' M2 σ' H2 g2 => f.xn x d δ' M2 σ' H2 (g.trans g2)⟩
/-- the answer now -/
theorem Fin.here {Qd : DK} {Q : VK} (f : Fin S M H Qd Q) (m : RepM S M H) {d : D} {v : V} (r : DV (Imm M S H) v d) (q : Qd d M) : Q v H := f d M v H .refl m r q
end
section
variable {X : Cx}
theorem PE_imp {e : Expr} {t t' : TE} (h : PE X e t) (k : ∀ σ H Q, t' σ H Q → t σ H Q) : PE X e t' := ⟨fun pins s σ H Q I q => h.run pins s σ H Q I (k σ H Q q)⟩
theorem PT_imp {e : Expr} {t t' : TT} (h : PT X e t) (k : ∀ σ H Q, t' σ H Q → t σ H Q) : PT X e t' := ⟨fun pins s σ H Q I q => h.run pins s σ H Q I (k σ H Q q)⟩
theorem PW_imp {e : Expr} {t t' : TT} (h : PW X e t) (k : ∀ σ H Q, t' σ H Q → t σ H Q) : PW X e t' := ⟨fun w pins s σ H Q I q => h.run w pins s σ H Q I (k σ H Q q)⟩
theorem PA_imp {e : List Expr} {t t' : TA} (h : PA X e t) (k : ∀ σ H Q, t' σ H Q → t σ H Q) : PA X e t' := ⟨fun p pins s σ H Q I q => h.run p pins s σ H Q I (k σ H Q q)⟩
theorem PS_imp {e : Stmt} {t t' : TS} (h : PS X e t) (k : ∀ D σ H, t' D σ H → t D σ H) : PS X e t' := ⟨fun pins s σ H D I q => h.run pins s σ H D I (k D σ H q)⟩
theorem PSs_imp {e : List Stmt} {t t' : TS} (h : PSs X e t) (k : ∀ D σ H, t' D σ H → t D σ H) : PSs X e t' := ⟨fun pins s σ H D I q => h.run pins s σ H D I (k D σ H q)⟩
theorem PG_imp {e : Expr} {t t' : TG} (h : PG X e t) (k : ∀ v σ H Q, t' v σ H Q → t v σ H Q) : PG X e t' := ⟨fun pins s σ H v u Q I r q => h.run pins s σ H v u Q I r (k v σ H Q q)⟩
theorem PGs_imp {e : List Expr} {t t' : TGs} (h : PGs X e t) (k : ∀ v σ H Q, t' v σ H Q → t v σ H Q) : PGs X e t' := ⟨fun pins s σ H v u Q I r q => h.run pins s σ H v u Q I r (k v σ H Q q)⟩
theorem PI_imp {tg e : Expr} {t t' : TI} (h : PI X tg e t) (k : ∀ σ H Q, t' σ H Q → t σ H Q) : PI X tg e t' := ⟨fun pins s σ H Q I q => h.run pins s σ H Q I (k σ H Q q)⟩
theorem OpR_imp {f : Value → Value → Sem Value} {r r' : R2} (h : OpR X f r) (k : ∀ x y H Q, r' x y H Q → r x y H Q) : OpR X f r' := fun pins s σ H x y v u Q I rx ry q => h pins s σ H x y v u Q I rx ry (k x y H Q q)
theorem CallR_imp {f : Value} {r r' : List V → Hp → VK → Prop} (h : CallR X f r) (k : ∀ x H Q, r' x H Q → r x H Q) : CallR X f r' := fun pins s σ H x u Q I rx q => h pins s σ H x u Q I rx (k x H Q q)
end
end DL
set_option Elab.async false
set_option linter.all false
set_option maxRecDepth 100000
/-! DL2: expressions by data. -/
namespace DL
open PySem PySem.Spec PyProof.Rows L2

/-! ### inversions -/
section
variable {HI : Hp} {v : V}
theorem dv_int {i : Int} (h : DV HI v (.dat (.int i))) : v = .int i := by
  cases (show Dq HI v (.int i) from h); rfl
theorem dv_str {i : Str} (h : DV HI v (.dat (.str i))) : v = .str i := by
  cases (show Dq HI v (.str i) from h); rfl
theorem dv_bl {i : Bool} (h : DV HI v (.dat (.bool i))) : v = .bl i := by
  cases (show Dq HI v (.bool i) from h); rfl
theorem dv_non (h : DV HI v (.dat .none)) : v = .non := by
  cases (show Dq HI v .none from h); rfl
theorem dv_tup {ps : List PyData} (h : DV HI v (.dat (.tuple ps))) : ∃ a xs, v = .ref a ∧ HI a = some (.tup xs) ∧ DqAll HI xs ps := by
  cases (show Dq HI v (.tuple ps) from h) with
  | tup h1 h2 => exact ⟨_, _, rfl, h1, h2⟩
theorem dv_lst {ps : List PyData} (h : DV HI v (.dat (.list ps))) : ∃ a xs, v = .ref a ∧ HI a = some (.lst xs) ∧ DqAll HI xs ps := by
  cases (show Dq HI v (.list ps) from h) with
  | lst h1 h2 => exact ⟨_, _, rfl, h1, h2⟩
theorem dvI {i : Int} : DV HI (.int i) (.dat (.int i)) := Dq.int i
theorem dvB {b : Bool} : DV HI (.bl b) (.dat (.bool b)) := Dq.bl b
theorem dvS {b : Str} : DV HI (.str b) (.dat (.str b)) := Dq.str b
theorem dvN : DV HI .non (.dat .none) := Dq.non
theorem dvR {a : Addr} : DV HI (.ref a) (.ref a) := rfl
theorem dv_tup_mk {a : Addr} {xs : List V} {ps : List PyData} (h1 : HI a = some (.tup xs)) (h2 : DqAll HI xs ps) : DV HI (.ref a) (.dat (.tuple ps)) := .tup h1 h2
theorem dv_lst_mk {a : Addr} {xs : List V} {ps : List PyData} (h1 : HI a = some (.lst xs)) (h2 : DqAll HI xs ps) : DV HI (.ref a) (.dat (.list ps)) := .lst h1 h2
theorem DqAll_get : ∀ {xs : List V} {ps : List PyData} {i : Nat} {p : PyData}, DqAll HI xs ps → ps[i]? = some p → ∃ x, xs[i]? = some x ∧ Dq HI x p
  | _, [], _, _, _, h => by simp at h
  | _, q :: ps, 0, p, h, e => by
    cases h with
    | cons h1 h2 => simp at e; subst e; exact ⟨_, rfl, h1⟩
  | _, q :: ps, i + 1, p, h, e => by
    cases h with
    | cons h1 h2 =>
      obtain ⟨x, e1, e2⟩ := DqAll_get h2 (i := i) (p := p) (by simpa using e)
      exact ⟨x, by simpa using e1, e2⟩
theorem DVs_get : ∀ {xs : List V} {ds : List D} {i : Nat} {d : D}, DVs HI xs ds → ds[i]? = some d → ∃ x, xs[i]? = some x ∧ DV HI x d
  | _, [], _, _, _, h => by simp at h
  | _, q :: ps, 0, p, h, e => by
    cases h with
    | cons h1 h2 => simp at e; subst e; exact ⟨_, rfl, h1⟩
  | _, q :: ps, i + 1, p, h, e => by
    cases h with
    | cons h1 h2 =>
      obtain ⟨x, e1, e2⟩ := DVs_get h2 (i := i) (d := p) (by simpa using e)
      exact ⟨x, by simpa using e1, e2⟩
theorem DqAll_append : ∀ {xs ys : List V} {ps qs : List PyData}, DqAll HI xs ps → DqAll HI ys qs → DqAll HI (xs ++ ys) (ps ++ qs)
  | _, _, [], _, h, h' => by cases h; exact h'
  | _, _, p :: ps, _, h, h' => by
    cases h with
    | cons h1 h2 => exact .cons h1 (DqAll_append h2 h')
theorem DqAll_drop : ∀ {xs : List V} {ps : List PyData} (n : Nat), DqAll HI xs ps → DqAll HI (xs.drop n) (ps.drop n)
  | _, _, 0, h => h
  | _, [], _ + 1, h => by cases h; exact .nil
  | _, _ :: _, n + 1, h => by
    cases h with
    | cons h1 h2 => exact DqAll_drop n h2
theorem DqAll_take : ∀ {xs : List V} {ps : List PyData} (n : Nat), DqAll HI xs ps → DqAll HI (xs.take n) (ps.take n)
  | _, _, 0, h => .nil
  | _, [], _ + 1, h => by cases h; exact .nil
  | _, _ :: _, n + 1, h => by
    cases h with
    | cons h1 h2 => exact .cons h1 (DqAll_take n h2)
theorem DVs_append : ∀ {xs ys : List V} {ps qs : List D}, DVs HI xs ps → DVs HI ys qs → DVs HI (xs ++ ys) (ps ++ qs)
  | _, _, _, _, .nil, h' => h'
  | _, _, _, _, .cons h1 h2, h' => .cons h1 (DVs_append h2 h')
theorem DVs_drop : ∀ {xs : List V} {ps : List D} (n : Nat), DVs HI xs ps → DVs HI (xs.drop n) (ps.drop n)
  | _, _, 0, h => h
  | _, _, _ + 1, .nil => .nil
  | _, _, n + 1, .cons _ h2 => DVs_drop n h2
theorem DVs_take : ∀ {xs : List V} {ps : List D} (n : Nat), DVs HI xs ps → DVs HI (xs.take n) (ps.take n)
  | _, _, 0, h => .nil
  | _, _, _ + 1, .nil => .nil
  | _, _, n + 1, .cons h1 h2 => .cons h1 (DVs_take n h2)
theorem DVs_set : ∀ {xs : List V} {ps : List D} {x : V} {d : D} (n : Nat), DVs HI xs ps → DV HI x d → DVs HI (xs.set n x) (ps.set n d)
  | _, _, _, _, _, .nil, _ => .nil
  | _, _, _, _, 0, .cons _ h2, q => .cons q h2
  | _, _, _, _, n + 1, .cons h1 h2, q => .cons h1 (DVs_set n h2 q)
theorem DVs_len {xs : List V} {ps : List D} (h : DVs HI xs ps) : xs.length = ps.length := Paired.length h
end

/-! ### sequences as they stand -/
def seqOf (M : Mp) : D → Option (List D)
  | .dat (.list ps) => some (ps.map .dat)
  | .dat (.tuple ps) => some (ps.map .dat)
  | .ref a => match M a with
    | some (.lst ds) => some ds
    | some (.frz ds) => some ds
    | _ => none
  | _ => none
theorem seq_at {K : PySem.W.Frag} {S : Hid} {M : Mp} {H : Hp} {v : V} {d : D} {ds : List D} (m : RepM S M H) (r : DV (Imm M S H) v d) (h : seqOf M d = some ds) :
    ∃ a xs, v = .ref a ∧ (SqL K H a xs ∨ SqT K H a xs) ∧ DVs (Imm M S H) xs ds := by
  unfold seqOf at h
  split at h
  · cases h
    obtain ⟨a, xs, rfl, h1, h2⟩ := dv_lst r
    exact ⟨a, xs, rfl, .inl (.of (imm_sub _ _ h1)), h2.dvs⟩
  · cases h
    obtain ⟨a, xs, rfl, h1, h2⟩ := dv_tup r
    exact ⟨a, xs, rfl, .inr (.of (imm_sub _ _ h1)), h2.dvs⟩
  · rename_i a
    have e : v = .ref a := r
    subst e
    split at h
    · rename_i ds' q
      cases h
      obtain ⟨vs, h1, h2⟩ := m.obj a _ q
      exact ⟨a, vs, rfl, .inl (.of h1), h2⟩
    · rename_i ds' q
      cases h
      obtain ⟨o, vs, h1, h2⟩ := m.obj a _ q
      exact ⟨a, vs, rfl, .inl (.inl (.inr ⟨o, h1⟩)), h2⟩
    · cases h
  · cases h

/-! ### names and constants -/
def dVar (i : Nat) : DE := fun δ M Q => match δ[i]? with
  | some (some d) => Q d M
  | _ => False
def dC (p : PyData) : DE := fun _ M Q => Q (.dat p) M
section
variable {X : Cx}
abbrev QE (X : Cx) (e : Expr) (t : DE) : Prop := PE X e (liftE t)
abbrev QT (X : Cx) (e : Expr) (t : DT) : Prop := PT X e (liftT t)
abbrev QW (X : Cx) (e : Expr) (t : DT) : Prop := PW X e (liftT t)
abbrev QA (X : Cx) (e : List Expr) (t : DA) : Prop := PA X e (liftA t)
abbrev QS (X : Cx) (e : Stmt) (t : DS) : Prop := PS X e (liftS (Wc X) t)
abbrev QSs (X : Cx) (e : List Stmt) (t : DS) : Prop := PSs X e (liftS (Wc X) t)
theorem q_var (i : Nat) {x : Str} {pos : Pos} (hN : X.N[i]? = some x := by rfl) (hv : Vis X.env.scope x := by first | exact Or.inl rfl | exact Or.inr (Or.inl rfl) | exact Or.inr (Or.inr rfl)) (hd : (x == ("__debug__" : Str)) = false := by decide)
    (hcd : (x == ("__classdict__" : Str)) = false := by decide) : QE X (.Name x pos) (dVar i) := PE_imp (pe_var hN hv hd hcd) fun σ H Q ⟨S, δ, M, Qd, r, h, k⟩ => by
  unfold dVar at h
  split at h
  · rename_i d e
    obtain ⟨v, e1, e2⟩ := r.s.2 i d e
    exact ⟨v, e1, k.here r.m e2 h⟩
  · exact h.elim
theorem q_c {e : Expr} {v : V} {p : PyData} (h : PE X e (tC v)) (r : ∀ HI, Dq HI v p) : QE X e (dC p) := PE_imp h fun σ H Q ⟨S, δ, M, Qd, rp, h, k⟩ => k.here (d := .dat p) rp.m (show DV _ v (.dat p) from r _) h
theorem q_int {i : Int} {j pos} : QE X (.Constant (.int i) j pos) (dC (.int i)) := q_c pe_int fun _ => .int i
theorem q_bl {b : Bool} {j pos} : QE X (.Constant (.bool b) j pos) (dC (.bool b)) := q_c pe_bl fun _ => .bl b
theorem q_non {j pos} : QE X (.Constant .none j pos) (dC .none) := q_c pe_non fun _ => .non
theorem q_str {x : Str} {j pos} : QE X (.Constant (.str x) j pos) (dC (.str x)) := q_c pe_str fun _ => .str x
theorem q_globS {x z : Str} {t : Tok} {pos : Pos} (hg : Gl X x) (hm : X.mg x = some (.str z t)) (hd : (x == ("__debug__" : Str)) = false := by decide) : QE X (.Name x pos) (dC (.str z)) := q_c (pe_glob (v := .str z) hg hm ⟨_, rfl⟩ hd) fun _ => .str z

/-! ### argument lists, displays -/
def aNil : DA := fun _ M Q => Q [] M
def aCons (ta : DE) (tr : DA) : DA := fun δ M Q => ta δ M fun d M1 => tr δ M1 fun ds M2 => Q (d :: ds) M2
theorem qa_nil : QA X [] aNil := PA_imp pa_nil fun σ H Q ⟨S, δ, M, Qd, r, h, k⟩ => k [] M [] H .refl r.m .nil h
theorem qa_cons {e : Expr} {es : List Expr} {ta : DE} {tr : DA} (ha : QE X e ta) (hr : QA X es tr) (hs : starEach (e :: es) X.env = (false, eval e X.env) :: starEach es X.env := by rfl) : QA X (e :: es) (aCons ta tr) :=
  PA_imp (pa_cons ha hr hs) fun σ H Q ⟨S, δ, M, Qd, r, h, k⟩ =>
    ⟨S, δ, M, _, r, h, fun d M1 v H1 g1 m1 r1 q1 => ⟨S, δ, M1, _, r.grow g1 m1, q1, fun ds M2 vs H2 g2 m2 r2 q2 => k _ _ _ _ (g1.trans g2) m2 (.cons (r1.mono (g2.imm S)) r2) q2⟩⟩
/-- the new tuple -/
def mkTup (ds : List D) (M : Mp) (Q : DK) : Prop := match datsOf ds with
  | some ps => ps.length ≤ 16777216 ∧ Q (.dat (.tuple ps)) M
  | none => False
def mkLst (ds : List D) (M : Mp) (Q : DK) : Prop := match datsOf ds with
  | some ps => ps.length ≤ 16777216 ∧ Q (.dat (.list ps)) M
  | none => False
/-- .. a list that will change -/
def mkLstM (ds : List D) (M : Mp) (Q : DK) : Prop := ds.length ≤ 16777216 ∧ ∀ p, M p = none → Q (.ref p) (updM M p (.lst ds))
theorem mkTup_ok {S : Hid} {M : Mp} {H : Hp} {vs : List V} {ds : List D} {Qd : DK} {Q : VK} (m : RepM S M H) (r : DVs (Imm M S H) vs ds) (h : mkTup ds M Qd) (k : Fin S M H Qd Q) : vs.length ≤ sizeLine ∧ ∀ p, H p = none → Q (.ref p) (upd H p (.tup vs)) := by
  unfold mkTup at h
  split at h
  · rename_i ps e
    obtain ⟨hl, q⟩ := h
    have ra := r.dats e
    refine ⟨by rw [sizeLine_eq, ra.length]; exact hl, fun p hp => ?_⟩
    obtain ⟨m1, g1, i1⟩ := m.new hp (.tup vs)
    exact k _ _ _ _ g1 m1 (dv_tup_mk i1 (DqAll_mono (g1.imm S) _ _ ra)) q
  · exact h.elim
theorem mkLst_ok {S : Hid} {M : Mp} {H : Hp} {vs : List V} {ds : List D} {Qd : DK} {Q : VK} (m : RepM S M H) (r : DVs (Imm M S H) vs ds) (h : mkLst ds M Qd) (k : Fin S M H Qd Q) : vs.length ≤ sizeLine ∧ ∀ p, H p = none → Q (.ref p) (upd H p (.lst vs)) := by
  unfold mkLst at h
  split at h
  · rename_i ps e
    obtain ⟨hl, q⟩ := h
    have ra := r.dats e
    refine ⟨by rw [sizeLine_eq, ra.length]; exact hl, fun p hp => ?_⟩
    obtain ⟨m1, g1, i1⟩ := m.new hp (.lst vs)
    exact k _ _ _ _ g1 m1 (dv_lst_mk i1 (DqAll_mono (g1.imm S) _ _ ra)) q
  · exact h.elim
theorem mkLstM_ok {S : Hid} {M : Mp} {H : Hp} {vs : List V} {ds : List D} {Qd : DK} {Q : VK} (m : RepM S M H) (r : DVs (Imm M S H) vs ds) (h : mkLstM ds M Qd) (k : Fin S M H Qd Q) : vs.length ≤ sizeLine ∧ ∀ p, H p = none → Q (.ref p) (upd H p (.lst vs)) := by
  obtain ⟨hl, q⟩ := h
  refine ⟨by rw [sizeLine_eq, r.length]; exact hl, fun p hp => ?_⟩
  obtain ⟨m1, g1⟩ := m.newM (o := .lst ds) (u := .lst vs) hp ⟨vs, upd_same, r⟩
  exact k _ _ _ _ g1 m1 dvR (q p (m.free hp))
def dTup (ta : DA) : DE := fun δ M Q => ta δ M fun ds M1 => mkTup ds M1 Q
def dLst (ta : DA) : DE := fun δ M Q => ta δ M fun ds M1 => mkLst ds M1 Q
def dLstM (ta : DA) : DE := fun δ M Q => ta δ M fun ds M1 => mkLstM ds M1 Q
variable {es : List Expr} {ta : DA} {pos : Pos}
theorem q_tup {x1} (h : QA X es ta) : QE X (.Tuple es x1 pos) (dTup ta) := PE_imp (pe_tup h) fun σ H Q ⟨S, δ, M, Qd, r, h, k⟩ =>
  ⟨S, δ, M, _, r, h, fun ds M1 vs H1 g1 m1 r1 q1 => mkTup_ok m1 r1 q1 (k.grow g1)⟩
theorem q_lst (h : QA X es ta) : QE X (.List es pos) (dLst ta) := PE_imp (pe_lst h) fun σ H Q ⟨S, δ, M, Qd, r, h, k⟩ =>
  ⟨S, δ, M, _, r, h, fun ds M1 vs H1 g1 m1 r1 q1 => mkLst_ok m1 r1 q1 (k.grow g1)⟩
theorem q_lstM (h : QA X es ta) : QE X (.List es pos) (dLstM ta) := PE_imp (pe_lst h) fun σ H Q ⟨S, δ, M, Qd, r, h, k⟩ =>
  ⟨S, δ, M, _, r, h, fun ds M1 vs H1 g1 m1 r1 q1 => mkLstM_ok m1 r1 q1 (k.grow g1)⟩
end

/-! ### two-place operations -/
abbrev F2 := D → D → Mp → DK → Prop
def dOp (f : F2) (ta tb : DE) : DE := fun δ M Q => ta δ M fun x M1 => tb δ M1 fun y M2 => f x y M2 Q
def liftR (f : F2) : R2 := fun x y H Q => ∃ S M dx dy Qd, RepM S M H ∧ DV (Imm M S H) x dx ∧ DV (Imm M S H) y dy ∧ f dx dy M Qd ∧ Fin S M H Qd Q
/-- the lifted reading of two operands in a row -/
theorem tOp_lift {f : F2} {ta tb : DE} {σ : L2.St} {H : Hp} {Q : VK} (h : liftE (dOp f ta tb) σ H Q) : tOp (liftR f) (liftE ta) (liftE tb) σ H Q := by
  obtain ⟨S, δ, M, Qd, r, h, k⟩ := h
  exact ⟨S, δ, M, _, r, h, fun x M1 v H1 g1 m1 r1 q1 => ⟨S, δ, M1, _, r.grow g1 m1, q1, fun y M2 u H2 g2 m2 r2 q2 =>
    ⟨S, M2, x, y, Qd, m2, r1.mono (g2.imm S), r2, q2, k.grow (g1.trans g2)⟩⟩⟩
section
variable {X : Cx} {a b : Expr} {ta tb : DE} {pos : Pos}
theorem q_op {op : Operator} {f : F2} (ho : OpR X (binaryOp op) (liftR f)) (ha : QE X a ta) (hb : QE X b tb) : QE X (.BinOp a op b pos) (dOp f ta tb) := PE_imp (pe_op ho ha hb) fun _ _ _ => tOp_lift
theorem q_cmp {op : CmpOp} {f : F2} (ho : OpR X (compareOp op) (liftR f)) (ha : QE X a ta) (hb : QE X b tb) (hm : behindInMarks op b = false) : QE X (.Compare a [op] [b] pos) (dOp f ta tb) := PE_imp (pe_cmpR ho ha hb hm) fun _ _ _ => tOp_lift
end
def addD : F2
  | .dat (.int i), .dat (.int j), M, Q => Q (.dat (.int (i + j))) M
  | .dat (.tuple a), .dat (.tuple b), M, Q => a.length + b.length ≤ 16777216 ∧ Q (.dat (.tuple (a ++ b))) M
  | .dat (.list a), .dat (.list b), M, Q => a.length + b.length ≤ 16777216 ∧ Q (.dat (.list (a ++ b))) M
  | _, _, _, _ => False
def subD : F2
  | .dat (.int i), .dat (.int j), M, Q => Q (.dat (.int (i - j))) M
  | _, _, _, _ => False
def repL (ps : List PyData) (k : Int) : List PyData := (List.replicate k.toNat ps).flatten
def mulD : F2
  | .dat (.int i), .dat (.int j), M, Q => CMul i j ∧ Q (.dat (.int (i * j))) M
  | _, _, _, _ => False
/-- a list times an int, the new list to be changed -/
def mulM : F2
  | .dat (.list ps), .dat (.int k), M, Q => 0 ≤ k ∧ k ≤ 16777216 ∧ ps.length = 1 ∧ ∀ p, M p = none → Q (.ref p) (updM M p (.lst ((repL ps k).map .dat)))
  | _, _, _, _ => False
def fdivD : F2
  | .dat (.int i), .dat (.int j), M, Q => (0 < j ∧ j < 1073741824) ∧ Q (.dat (.int (i / j))) M
  | _, _, _, _ => False
def modD : F2
  | .dat (.int i), .dat (.int j), M, Q => 0 < j ∧ Q (.dat (.int (i % j))) M
  | _, _, _, _ => False
def powD : F2
  | .dat (.int i), .dat (.int j), M, Q => CPow i j ∧ Q (.dat (.int (i ^ j.toNat))) M
  | _, _, _, _ => False
section
variable {X : Cx}
theorem o_add : OpR X (binaryOp .Add) (liftR addD) := by
  rintro pins s σ H x y v u Q I rx ry ⟨S, M, dx, dy, Qd, m, hx, hy, h, k⟩
  unfold addD at h
  split at h
  · cases dv_int hx; cases dv_int hy
    exact op_add pins s σ H _ _ v u Q I rx ry ⟨_, _, rfl, rfl, k.here m dvI h⟩
  · obtain ⟨a, xs, rfl, ha, da⟩ := dv_tup hx
    obtain ⟨b, ys, rfl, hb, db⟩ := dv_tup hy
    obtain ⟨hl, q⟩ := h
    have lx := da.length
    have ly := db.length
    refine op_catA pins s σ H _ _ v u Q I rx ry ⟨a, b, xs, ys, rfl, rfl, .of (imm_sub _ _ ha), .of (imm_sub _ _ hb), by rw [sizeLine_eq, lx, ly]; exact hl, fun e => ?_, fun e0 e => ?_, fun e0 e1 p hp => ?_⟩
    · subst e
      cases da
      exact k.here m (dv_tup_mk hb db) q
    · subst e
      cases db
      rw [List.append_nil] at q
      exact k.here m (dv_tup_mk ha da) q
    · obtain ⟨m1, g1, i1⟩ := m.new hp (.tup (xs ++ ys))
      exact k _ _ _ _ g1 m1 (dv_tup_mk i1 (DqAll_mono (g1.imm S) _ _ (DqAll_append da db))) q
  · obtain ⟨a, xs, rfl, ha, da⟩ := dv_lst hx
    obtain ⟨b, ys, rfl, hb, db⟩ := dv_lst hy
    obtain ⟨hl, q⟩ := h
    have lx := da.length
    have ly := db.length
    refine op_cat pins s σ H _ _ v u Q I rx ry ⟨a, b, xs, ys, rfl, rfl, imm_sub _ _ ha, imm_sub _ _ hb, by rw [sizeLine_eq, lx, ly]; exact hl, fun p hp => ?_⟩
    obtain ⟨m1, g1, i1⟩ := m.new hp (.lst (xs ++ ys))
    exact k _ _ _ _ g1 m1 (dv_lst_mk i1 (DqAll_mono (g1.imm S) _ _ (DqAll_append da db))) q
  · exact h.elim
theorem o_sub : OpR X (binaryOp .Sub) (liftR subD) := by
  rintro pins s σ H x y v u Q I rx ry ⟨S, M, dx, dy, Qd, m, hx, hy, h, k⟩
  unfold subD at h
  split at h
  · cases dv_int hx; cases dv_int hy
    exact op_sub pins s σ H _ _ v u Q I rx ry ⟨_, _, rfl, rfl, k.here m dvI h⟩
  · exact h.elim
theorem o_mul : OpR X (binaryOp .Mult) (liftR mulD) := by
  rintro pins s σ H x y v u Q I rx ry ⟨S, M, dx, dy, Qd, m, hx, hy, h, k⟩
  unfold mulD at h
  split at h
  · cases dv_int hx; cases dv_int hy
    exact op_mul pins s σ H _ _ v u Q I rx ry ⟨_, _, rfl, rfl, h.1, k.here m dvI h.2⟩
  · exact h.elim
theorem o_fdiv : OpR X (binaryOp .FloorDiv) (liftR fdivD) := by
  rintro pins s σ H x y v u Q I rx ry ⟨S, M, dx, dy, Qd, m, hx, hy, h, k⟩
  unfold fdivD at h
  split at h
  · cases dv_int hx; cases dv_int hy
    exact op_fdiv pins s σ H _ _ v u Q I rx ry ⟨_, _, rfl, rfl, h.1, k.here m dvI h.2⟩
  · exact h.elim
theorem o_mod : OpR X (binaryOp .Mod) (liftR modD) := by
  rintro pins s σ H x y v u Q I rx ry ⟨S, M, dx, dy, Qd, m, hx, hy, h, k⟩
  unfold modD at h
  split at h
  · cases dv_int hx; cases dv_int hy
    exact op_mod pins s σ H _ _ v u Q I rx ry ⟨_, _, rfl, rfl, h.1, k.here m dvI h.2⟩
  · exact h.elim
theorem o_pow : OpR X (binaryOp .Pow) (liftR powD) := by
  rintro pins s σ H x y v u Q I rx ry ⟨S, M, dx, dy, Qd, m, hx, hy, h, k⟩
  unfold powD at h
  split at h
  · cases dv_int hx; cases dv_int hy
    exact op_pow pins s σ H _ _ v u Q I rx ry ⟨_, _, rfl, rfl, h.1, k.here m dvI h.2⟩
  · exact h.elim
theorem DVs_rep {HI : Hp} {xs : List V} {ds : List D} (h : DVs HI xs ds) : ∀ n : Nat, DVs HI (List.replicate n xs).flatten (List.replicate n ds).flatten
  | 0 => .nil
  | n + 1 => by
    rw [List.replicate_succ, List.replicate_succ, List.flatten_cons, List.flatten_cons]
    exact DVs_append h (DVs_rep h n)
theorem repL_map (ps : List PyData) (k : Int) : (repL ps k).map D.dat = (List.replicate k.toNat (ps.map D.dat)).flatten := by
  unfold repL
  rw [List.map_flatten, List.map_replicate]
theorem o_mulM : OpR X (binaryOp .Mult) (liftR mulM) := by
  rintro pins s σ H x y v u Q I rx ry ⟨S, M, dx, dy, Qd, m, hx, hy, h, k⟩
  unfold mulM at h
  split at h
  · cases dv_int hy
    obtain ⟨a, xs, rfl, ha, da⟩ := dv_lst hx
    obtain ⟨h0, h1, h2, q⟩ := h
    have lx := da.length
    refine op_rep pins s σ H _ _ v u Q I rx ry ⟨a, _, xs, rfl, rfl, imm_sub _ _ ha, by omega, by omega, by rw [sizeLine_eq, lx, h2]; omega, fun p hp => ?_⟩
    obtain ⟨m1, g1⟩ := m.newM (o := .lst ((List.replicate _ (List.map D.dat _)).flatten)) (u := .lst _) hp ⟨_, upd_same, DVs_rep da.dvs _⟩
    have qq := q p (m.free hp)
    rw [repL_map] at qq
    exact k _ _ _ _ g1 m1 dvR qq
  · exact h.elim
end
end DL
set_option Elab.async false
set_option linter.all false
set_option maxRecDepth 100000
/-! DL3: comparisons, subscripts, slices, tests, calls of what is built in. -/
namespace DL
open PySem PySem.Spec PyProof.Rows L2

/-! ### comparisons -/
def eqD : F2
  | .dat (.int i), .dat (.int j), M, Q => Q (.dat (.bool (decide (i = j)))) M
  | .dat (.str i), .dat (.str j), M, Q => Q (.dat (.bool (decide (i = j)))) M
  | .dat (.tuple a), .dat (.tuple b), M, Q => SeqAt.shaped (.tuple a) = true ∧ SeqAt.shaped (.tuple b) = true ∧ Q (.dat (.bool (PyData.eqvAll a b))) M
  | _, _, _, _ => False
def neD : F2
  | .dat (.int i), .dat (.int j), M, Q => Q (.dat (.bool (!decide (i = j)))) M
  | .dat (.str i), .dat (.str j), M, Q => Q (.dat (.bool (!decide (i = j)))) M
  | .dat (.tuple a), .dat (.tuple b), M, Q => SeqAt.shaped (.tuple a) = true ∧ SeqAt.shaped (.tuple b) = true ∧ Q (.dat (.bool (!PyData.eqvAll a b))) M
  | _, _, _, _ => False
/-- two tuples that can be compared -/
def CmpOk (a b : List PyData) : Prop := W.alikeAll a b = true ∧ PyData.depth (.tuple a) ≤ 60
def ltT (a b : List PyData) : Bool := W.dataLt (.tuple a) (.tuple b)
def ltD : F2
  | .dat (.int i), .dat (.int j), M, Q => Q (.dat (.bool (decide (i < j)))) M
  | .dat (.tuple a), .dat (.tuple b), M, Q => CmpOk a b ∧ Q (.dat (.bool (ltT a b))) M
  | _, _, _, _ => False
def gtD : F2
  | .dat (.int i), .dat (.int j), M, Q => Q (.dat (.bool (decide (j < i)))) M
  | .dat (.tuple a), .dat (.tuple b), M, Q => CmpOk a b ∧ Q (.dat (.bool (ltT b a))) M
  | _, _, _, _ => False
def leD : F2
  | .dat (.int i), .dat (.int j), M, Q => Q (.dat (.bool (decide (i ≤ j)))) M
  | .dat (.tuple a), .dat (.tuple b), M, Q => CmpOk a b ∧ Q (.dat (.bool (!ltT b a))) M
  | _, _, _, _ => False
def geD : F2
  | .dat (.int i), .dat (.int j), M, Q => Q (.dat (.bool (decide (j ≤ i)))) M
  | _, _, _, _ => False
def isNonP : PyData → Bool
  | .none => true
  | _ => false
def isBoolP (b : Bool) : PyData → Bool
  | .bool c => c == b
  | _ => false
/-- x is None, True, False -/
def isD : F2
  | .dat p, .dat .none, M, Q => Q (.dat (.bool (isNonP p))) M
  | .ref _, .dat .none, M, Q => Q (.dat (.bool false)) M
  | .dat p, .dat (.bool b), M, Q => Q (.dat (.bool (isBoolP b p))) M
  | _, _, _, _ => False
def inStrD : F2
  | .dat (.str x), .dat (.str z), M, Q => ∃ c, x = ⟨#[c]⟩ ∧ Q (.dat (.bool (decide (c ∈ z.cps.toList)))) M
  | _, _, _, _ => False
/-- an int in a tuple of ints -/
def inTupD : F2
  | .dat (.int i), .dat (.tuple ps), M, Q => ∃ ns : List Int, ps = ns.map .int ∧ Q (.dat (.bool (decide (i ∈ ns)))) M
  | _, _, _, _ => False
/-- in a list of data -/
def inLstD : F2
  | .dat d, .dat (.list ds), M, Q => SeqAt.shaped d = true ∧ SeqAt.shaped (.list ds) = true ∧ Q (.dat (.bool (ds.any fun z => PyData.eqv z d))) M
  | _, _, _, _ => False
section
variable {X : Cx}
theorem dv_dp {K : PySem.W.Frag} {M : Mp} {S : Hid} {H : Hp} {v : V} {p : PyData} (h : DV (Imm M S H) v (.dat p)) : Dp K H v p := Dq_dp _ _ (Dq_mono imm_sub _ _ h)
theorem o_eq (hu : X.A.units + 64 < cLine) : OpR X (compareOp .Eq) (liftR eqD) := by
  rintro pins s σ H x y v u Q I rx ry ⟨S, M, dx, dy, Qd, m, hx, hy, h, k⟩
  unfold eqD at h
  split at h
  · rename_i i j
    cases dv_int hx; cases dv_int hy
    refine op_eq pins s σ H _ _ v u Q I rx ry ⟨rfl, k.here m dvB ?_⟩
    rw [show decide (V.int i = V.int j) = decide (i = j) from decide_eq_decide.mpr ⟨fun e => V.int.inj e, fun e => by rw [e]⟩]
    exact h
  · rename_i i j
    cases dv_str hx; cases dv_str hy
    refine op_eq pins s σ H _ _ v u Q I rx ry ⟨rfl, k.here m dvB ?_⟩
    rw [show decide (V.str i = V.str j) = decide (i = j) from decide_eq_decide.mpr ⟨fun e => V.str.inj e, fun e => by rw [e]⟩]
    exact h
  · refine op_eqD hu pins s σ H x y v u Q I rx ry ⟨_, _, dv_dp hx, dv_dp hy, h.1, h.2.1, k.here m dvB ?_⟩
    rw [PyData.eqv]
    exact h.2.2
  · exact h.elim
theorem o_ne (hu : X.A.units + 64 < cLine) : OpR X (compareOp .NotEq) (liftR neD) := by
  rintro pins s σ H x y v u Q I rx ry ⟨S, M, dx, dy, Qd, m, hx, hy, h, k⟩
  unfold neD at h
  split at h
  · rename_i i j
    cases dv_int hx; cases dv_int hy
    refine op_ne pins s σ H _ _ v u Q I rx ry ⟨rfl, k.here m dvB ?_⟩
    rw [show decide (V.int i = V.int j) = decide (i = j) from decide_eq_decide.mpr ⟨fun e => V.int.inj e, fun e => by rw [e]⟩]
    exact h
  · rename_i i j
    cases dv_str hx; cases dv_str hy
    refine op_ne pins s σ H _ _ v u Q I rx ry ⟨rfl, k.here m dvB ?_⟩
    rw [show decide (V.str i = V.str j) = decide (i = j) from decide_eq_decide.mpr ⟨fun e => V.str.inj e, fun e => by rw [e]⟩]
    exact h
  · refine op_neD hu pins s σ H x y v u Q I rx ry ⟨_, _, dv_dp hx, dv_dp hy, h.1, h.2.1, k.here m dvB ?_⟩
    rw [PyData.eqv]
    exact h.2.2
  · exact h.elim
theorem cmp_room {A : Around} {a b : List PyData} (hu : A.units + 64 < cLine) (h : PyData.depth (.tuple a) ≤ 60) : A.units + min (PyData.depth (.tuple a)) (PyData.depth (.tuple b)) < cLine := by
  have := Nat.min_le_left (PyData.depth (.tuple a)) (PyData.depth (.tuple b))
  omega
theorem o_lt (hu : X.A.units + 64 < cLine) : OpR X (compareOp .Lt) (liftR ltD) := by
  rintro pins s σ H x y v u Q I rx ry ⟨S, M, dx, dy, Qd, m, hx, hy, h, k⟩
  unfold ltD at h
  split at h
  · cases dv_int hx; cases dv_int hy
    exact op_lt pins s σ H _ _ v u Q I rx ry ⟨_, _, rfl, rfl, k.here m dvB h⟩
  · obtain ⟨as, r1⟩ := Dp.reads I _ x v (dv_dp hx) rx
    obtain ⟨bs, r2⟩ := Dp.reads I _ y u (dv_dp hy) ry
    exact W.lt_data r1 r2 (by rw [W.alike]; exact h.1.1) (by intro z; cases z) (cmp_room hu h.1.2) ⟨.bl _, H, I, rfl, k.here m dvB h.2⟩
  · exact h.elim
theorem o_gt (hu : X.A.units + 64 < cLine) : OpR X (compareOp .Gt) (liftR gtD) := by
  rintro pins s σ H x y v u Q I rx ry ⟨S, M, dx, dy, Qd, m, hx, hy, h, k⟩
  unfold gtD at h
  split at h
  · cases dv_int hx; cases dv_int hy
    exact op_gt pins s σ H _ _ v u Q I rx ry ⟨_, _, rfl, rfl, k.here m dvB h⟩
  · obtain ⟨as, r1⟩ := Dp.reads I _ x v (dv_dp hx) rx
    obtain ⟨bs, r2⟩ := Dp.reads I _ y u (dv_dp hy) ry
    exact W.gt_data r1 r2 (by rw [W.alike]; exact h.1.1) (by intro z; cases z) (cmp_room hu h.1.2) ⟨.bl _, H, I, rfl, k.here m dvB h.2⟩
  · exact h.elim
theorem o_le (hu : X.A.units + 64 < cLine) : OpR X (compareOp .LtE) (liftR leD) := by
  rintro pins s σ H x y v u Q I rx ry ⟨S, M, dx, dy, Qd, m, hx, hy, h, k⟩
  unfold leD at h
  split at h
  · cases dv_int hx; cases dv_int hy
    exact op_le pins s σ H _ _ v u Q I rx ry ⟨_, _, rfl, rfl, k.here m dvB h⟩
  · obtain ⟨as, r1⟩ := Dp.reads I _ x v (dv_dp hx) rx
    obtain ⟨bs, r2⟩ := Dp.reads I _ y u (dv_dp hy) ry
    exact W.le_data r1 r2 (by rw [W.alike]; exact h.1.1) (by intro z; cases z) (cmp_room hu h.1.2) ⟨.bl _, H, I, rfl, k.here m dvB h.2⟩
  · exact h.elim
theorem o_ge : OpR X (compareOp .GtE) (liftR geD) := by
  rintro pins s σ H x y v u Q I rx ry ⟨S, M, dx, dy, Qd, m, hx, hy, h, k⟩
  unfold geD at h
  split at h
  · cases dv_int hx; cases dv_int hy
    exact op_ge pins s σ H _ _ v u Q I rx ry ⟨_, _, rfl, rfl, k.here m dvB h⟩
  · exact h.elim
theorem is_bool_gen {Mo : Model} {A : Around} {E : Value → Shared → Prop} {s : Shared} {Q : Value → Shared → Prop} {v : Value} {b : Bool} (hv : ∀ id, v ≠ .builtin id) (h : Q (.bool (v == .bool b)) s) : wpAny Mo A (compareOp .Is v (.bool b)) Q E s := by
  cases v with
  | builtin id => exact absurd rfl (hv id)
  | _ => exact wpAny_pure h
theorem rel_nb {x : V} {v : Value} (r : RelV x v) : ∀ id, v ≠ .builtin id := by
  intro id e
  subst e
  cases x with
  | int i => obtain ⟨t, e⟩ := r; cases e
  | str i => obtain ⟨t, e⟩ := r; cases e
  | byt i => obtain ⟨t, e⟩ := r; cases e
  | flt i => obtain ⟨t, e⟩ := r; cases e
  | _ => cases r
theorem o_is : OpR X (compareOp .Is) (liftR isD) := by
  rintro pins s σ H x y v u Q I rx ry ⟨S, M, dx, dy, Qd, m, hx, hy, h, k⟩
  unfold isD at h
  split at h
  · rename_i p
    cases dv_non hy; cases ry
    refine is_none_gen ⟨.bl _, H, I, rfl, ?_⟩
    rw [rx.none_iff, show decide (x = .non) = isNonP p by
      cases p with
      | none => cases dv_non hx; rfl
      | bool b => cases dv_bl hx; rfl
      | int i => cases dv_int hx; rfl
      | str x => cases dv_str hx; rfl
      | list ds => obtain ⟨a, xs, rfl, _⟩ := dv_lst hx; rfl
      | tuple ds => obtain ⟨a, xs, rfl, _⟩ := dv_tup hx; rfl
      | dict ds => cases (show Dq _ x _ from hx)]
    exact k.here m dvB h
  · cases dv_non hy; cases ry
    cases (show x = .ref _ from hx); cases rx
    exact is_none_gen ⟨.bl _, H, I, rfl, k.here m dvB h⟩
  · rename_i p b
    cases dv_bl hy; cases ry
    refine is_bool_gen (rel_nb rx) ⟨.bl _, H, I, rfl, ?_⟩
    rw [show (v == Value.bool b) = isBoolP b p by
      cases p with
      | none => cases dv_non hx; cases rx; rfl
      | bool c => cases dv_bl hx; cases rx; cases b <;> cases c <;> rfl
      | int i => cases dv_int hx; obtain ⟨t, rfl⟩ := rx; rfl
      | str x => cases dv_str hx; obtain ⟨t, rfl⟩ := rx; rfl
      | list ds => obtain ⟨a, xs, rfl, _⟩ := dv_lst hx; cases rx; rfl
      | tuple ds => obtain ⟨a, xs, rfl, _⟩ := dv_tup hx; cases rx; rfl
      | dict ds => cases (show Dq _ x _ from hx)]
    exact k.here m dvB h
  · exact h.elim
theorem o_inStr : OpR X (compareOp .In) (liftR inStrD) := by
  rintro pins s σ H x y v u Q I rx ry ⟨S, M, dx, dy, Qd, m, hx, hy, h, k⟩
  unfold inStrD at h
  split at h
  · cases dv_str hx; cases dv_str hy
    obtain ⟨c, rfl, q⟩ := h
    exact op_in_sign pins s σ H _ _ v u Q I rx ry ⟨_, _, rfl, rfl, k.here m dvB q⟩
  · exact h.elim
theorem dq_ints {HI : Hp} : ∀ {vs : List V} {ns : List Int}, DqAll HI vs (ns.map .int) → vs = ns.map V.int
  | _, [], h => by cases h; rfl
  | _, n :: ns, h => by
    cases h with
    | cons h1 h2 =>
      cases h1
      rw [dq_ints h2]; rfl
theorem ints_dq {HI : Hp} : ∀ ns : List Int, DqAll HI (ns.map V.int) (ns.map .int)
  | [] => .nil
  | n :: ns => .cons (.int n) (ints_dq ns)
theorem o_inTup : OpR X (compareOp .In) (liftR inTupD) := by
  rintro pins s σ H x y v u Q I rx ry ⟨S, M, dx, dy, Qd, m, hx, hy, h, k⟩
  unfold inTupD at h
  split at h
  · rename_i i ps
    cases dv_int hx
    obtain ⟨ns, rfl, q⟩ := h
    obtain ⟨a, xs, rfl, ha, da⟩ := dv_tup hy
    cases dq_ints da
    refine op_in_seq pins s σ H _ _ v u Q I rx ry ⟨a, _, rfl, .inr (.of (imm_sub _ _ ha)), rfl, ?_, k.here m dvB ?_⟩
    · rw [List.all_eq_true]; intro y hy; obtain ⟨n, _, rfl⟩ := List.mem_map.mp hy; rfl
    · rw [show (if false = true then !inV (.int i) (ns.map V.int) else inV (.int i) (ns.map V.int)) = decide (i ∈ ns) by
        rw [if_neg Bool.false_ne_true]
        unfold inV
        rw [List.any_map, Bool.eq_iff_iff, List.any_eq_true, decide_eq_true_iff]
        constructor
        · rintro ⟨n, hn, e⟩
          have : n = i := eq_of_beq (show (n == i) = true from e)
          rw [← this]; exact hn
        · intro hn
          exact ⟨i, hn, show (i == i) = true by simp⟩]
      exact q
  · exact h.elim
theorem o_inLst (hu : X.A.units + 65 < cLine) : OpR X (compareOp .In) (liftR inLstD) := by
  rintro pins s σ H x y v u Q I rx ry ⟨S, M, dx, dy, Qd, m, hx, hy, h, k⟩
  unfold inLstD at h
  split at h
  · exact op_inD hu pins s σ H x y v u Q I rx ry ⟨_, _, dv_dp hx, dv_dp hy, h.1, h.2.1, k.here m dvB h.2.2⟩
  · exact h.elim
end

/-! ### subscripts -/
def ixD : F2 := fun x i M Q => match i with
  | .dat (.int i) => ∃ ds d, seqOf M x = some ds ∧ atI ds i = some d ∧ Q d M
  | _ => False
def ixS : F2
  | .dat (.str z), .dat (.int i), M, Q => ∃ c, z.length ≤ 16777216 ∧ atI z.cps.toList i = some c ∧ Q (.dat (.str ⟨#[c]⟩)) M
  | _, _, _, _ => False
section
variable {X : Cx}
theorem atI_dv {HI : Hp} {xs : List V} {ds : List D} {i : Int} {d : D} (h : DVs HI xs ds) (e : atI ds i = some d) : ∃ x, atI xs i = some x ∧ DV HI x d := by
  unfold atI at e ⊢
  rw [DVs_len h]
  cases q : ixN ds.length i with
  | none => rw [q] at e; cases e
  | some j =>
    rw [q] at e
    exact DVs_get h e
theorem i_seq : IxR X (liftR ixD) := by
  rintro value slice pins s σ H x y v u Q I rx ry ⟨S, M, dx, dy, Qd, m, hx, hy, h, k⟩ hs
  unfold ixD at h
  split at h
  · rename_i i
    cases dv_int hy
    obtain ⟨ds, d, e, ea, q⟩ := h
    obtain ⟨a, xs, rfl, hq, hd⟩ := seq_at (K := X.K) m hx e
    obtain ⟨z, ez, rz⟩ := atI_dv hd ea
    rcases hq with hq | hq
    · exact ix_list value slice pins s σ H _ _ v u Q I rx ry ⟨a, xs, i, z, rfl, rfl, hq, ez, k.here m rz q⟩ hs
    · exact ix_tup value slice pins s σ H _ _ v u Q I rx ry ⟨a, xs, i, z, rfl, rfl, hq, ez, k.here m rz q⟩ hs
  · exact h.elim
theorem i_str : IxR X (liftR ixS) := by
  rintro value slice pins s σ H x y v u Q I rx ry ⟨S, M, dx, dy, Qd, m, hx, hy, h, k⟩ hs
  unfold ixS at h
  split at h
  · cases dv_int hy; cases dv_str hx
    obtain ⟨c, hl, ea, q⟩ := h
    exact ix_str value slice pins s σ H _ _ v u Q I rx ry ⟨_, _, c, rfl, rfl, by rw [sizeLine_eq]; exact hl, ea, k.here m dvS q⟩ hs
  · exact h.elim
variable {a b : Expr} {ta tb : DE} {pos : Pos}
theorem q_ix {f : F2} (ho : IxR X (liftR f)) (ha : QE X a ta) (hb : QE X b tb) (hs : PlainIx b := by intro _ _; rfl) : QE X (.Subscript a b pos) (dOp f ta tb) := PE_imp (pe_ix ho ha hb hs) fun _ _ _ => tOp_lift
end

/-! ### slices -/
abbrev DO := Sd → Mp → (Option Int → Mp → Prop) → Prop
def oNone : DO := fun _ M Q => Q none M
def oSome (t : DE) : DO := fun δ M Q => t δ M fun d M1 => match d with
  | .dat (.int i) => Q (some i) M1
  | _ => False
def liftO (t : DO) : TO := fun σ H Q => ∃ S δ M Qd, Rep S δ M σ H ∧ t δ M Qd ∧ ∀ o M' H', Grow M H M' H' → RepM S M' H' → Qd o M' → Q o H'
def cutL {α : Type} (xs : List α) (lo hi : Option Int) : List α := (xs.drop (HT.sIx xs.length 0 lo)).take (HT.sIx xs.length xs.length hi - HT.sIx xs.length 0 lo)
def slD (x : D) (lo hi : Option Int) (M : Mp) (Q : DK) : Prop := match x with
  | .dat (.list ps) => Q (.dat (.list (cutL ps lo hi))) M
  | .dat (.tuple ps) => Q (.dat (.tuple (cutL ps lo hi))) M
  | .ref a => ∃ ds ps, seqOf M (.ref a) = some ds ∧ datsOf ds = some ps ∧ Q (.dat (.list (cutL ps lo hi))) M
  | _ => False
def dSl (te : DE) (tl th : DO) : DE := fun δ M Q => te δ M fun x M1 => tl δ M1 fun l M2 => th δ M2 fun u M3 => slD x l u M3 Q
def liftSl : V → Option Int → Option Int → Hp → VK → Prop := fun x lo hi H Q => ∃ S M dx Qd, RepM S M H ∧ DV (Imm M S H) x dx ∧ slD dx lo hi M Qd ∧ Fin S M H Qd Q
theorem cutL_dq {HI : Hp} {xs : List V} {ps : List PyData} (lo hi : Option Int) (h : DqAll HI xs ps) : DqAll HI (cutV xs lo hi) (cutL ps lo hi) := by
  unfold cutV cutL
  rw [h.length]
  exact DqAll_take _ (DqAll_drop _ h)
section
variable {X : Cx}
theorem s_seq : SlR X liftSl := by
  rintro pins s σ H x v vl vu lo hi sl Q I rx hs pl pu ⟨S, M, dx, Qd, m, hx, h, k⟩
  unfold slD at h
  split at h
  · obtain ⟨a, xs, rfl, ha, da⟩ := dv_lst hx
    refine sl_list pins s σ H _ v vl vu lo hi sl Q I rx hs pl pu ⟨a, xs, rfl, .of (imm_sub _ _ ha), fun p hp => ?_⟩
    obtain ⟨m1, g1, i1⟩ := m.new hp (.lst (cutV xs lo hi))
    exact k _ _ _ _ g1 m1 (dv_lst_mk i1 (DqAll_mono (g1.imm S) _ _ (cutL_dq lo hi da))) h
  · rename_i ps
    obtain ⟨a, xs, rfl, ha, da⟩ := dv_tup hx
    refine sl_tupA pins s σ H _ v vl vu lo hi sl Q I rx hs pl pu ⟨a, xs, rfl, .of (imm_sub _ _ ha), fun e => ?_, fun e p hp => ?_⟩
    · have ec : cutL ps lo hi = ps := by
        unfold cutL
        rw [← da.length, e.1, e.2, List.drop_zero, Nat.sub_zero, da.length, List.take_length]
      rw [ec] at h
      exact k.here m (dv_tup_mk ha da) h
    · obtain ⟨m1, g1, i1⟩ := m.new hp (.tup (cutV xs lo hi))
      exact k _ _ _ _ g1 m1 (dv_tup_mk i1 (DqAll_mono (g1.imm S) _ _ (cutL_dq lo hi da))) h
  · rename_i a
    obtain ⟨ds, ps, e1, e2, q⟩ := h
    have hq : ∃ xs, SqL X.K H a xs ∧ DVs (Imm M S H) xs ds := by
      have e1' : (match M a with | some (.lst ds) => some ds | some (.frz ds) => some ds | _ => none) = some ds := e1
      split at e1'
      · rename_i ds' q'
        cases e1'
        obtain ⟨vs, h1, h2⟩ := m.obj a _ q'
        exact ⟨vs, .of h1, h2⟩
      · rename_i ds' q'
        cases e1'
        obtain ⟨o, vs, h1, h2⟩ := m.obj a _ q'
        exact ⟨vs, .inl (.inr ⟨o, h1⟩), h2⟩
      · cases e1'
    obtain ⟨xs, hq, hd⟩ := hq
    have da := hd.dats e2
    cases (show x = .ref a from hx)
    refine sl_list pins s σ H _ v vl vu lo hi sl Q I rx hs pl pu ⟨a, xs, rfl, hq, fun p hp => ?_⟩
    obtain ⟨m1, g1, i1⟩ := m.new hp (.lst (cutV xs lo hi))
    exact k _ _ _ _ g1 m1 (dv_lst_mk i1 (DqAll_mono (g1.imm S) _ _ (cutL_dq lo hi da))) q
  · exact h.elim
abbrev QO (X : Cx) (e : Option Expr) (t : DO) : Prop := PO X e (liftO t)
theorem qo_none : QO X none oNone := ⟨fun pins s σ H Q I ⟨S, δ, M, Qd, r, h, k⟩ => po_none.run pins s σ H Q I (k none M H .refl r.m h)⟩
theorem qo_some {e : Expr} {te : DE} (he : QE X e te) : QO X (some e) (oSome te) := ⟨fun pins s σ H Q I ⟨S, δ, M, Qd, r, h, k⟩ => (po_some he).run pins s σ H Q I
  ⟨S, δ, M, _, r, h, fun d M1 v H1 g1 m1 r1 q1 => by
    revert q1
    dsimp only
    split
    · intro q1
      cases dv_int r1
      exact ⟨_, rfl, k _ _ _ g1 m1 q1⟩
    · exact False.elim⟩⟩
variable {e : Expr} {lo hi : Option Expr} {te : DE} {tl th : DO} {pos p2 : Pos}
theorem q_slice (he : QE X e te) (hl : QO X lo tl) (hu : QO X hi th) : QE X (.Subscript e (.Slice lo hi none p2) pos) (dSl te tl th) :=
  PE_imp (pe_slice s_seq he hl hu) fun σ H Q ⟨S, δ, M, Qd, r, h, k⟩ =>
    ⟨S, δ, M, _, r, h, fun x M1 v H1 g1 m1 r1 q1 => ⟨S, δ, M1, _, r.grow g1 m1, q1, fun l M2 H2 g2 m2 q2 => ⟨S, δ, M2, _, r.grow (g1.trans g2) m2, q2, fun u M3 H3 g3 m3 q3 =>
      ⟨S, M3, x, Qd, m3, r1.mono ((g2.trans g3).imm S), q3, k.grow ((g1.trans g2).trans g3)⟩⟩⟩⟩
/-- xs[::-1] of a list that stands still -/
def dRevL (te : DE) : DE := fun δ M Q => te δ M fun x M1 => match x with
  | .dat (.list ps) => Q (.dat (.list ps.reverse)) M1
  | _ => False
theorem DqAll_rev {HI : Hp} : ∀ {xs : List V} {ps : List PyData}, DqAll HI xs ps → DqAll HI xs.reverse ps.reverse
  | _, [], h => by cases h; exact .nil
  | _, p :: ps, h => by
    cases h with
    | cons h1 h2 =>
      rw [List.reverse_cons, List.reverse_cons]
      exact DqAll_append (DqAll_rev h2) (.cons h1 .nil)
theorem q_revL {k : Nat} {p1 p2 p3 pos : Pos} (he : QE X e te) : QE X (.Subscript e (.Slice none none (some (.UnaryOp .USub (.Constant (.int 1) k p1) p2)) p3) pos) (dRevL te) :=
  PE_imp (pe_revL he) fun σ H Q ⟨S, δ, M, Qd, r, h, k⟩ => ⟨S, δ, M, _, r, h, fun x M1 v H1 g1 m1 r1 q1 => by
    revert q1
    dsimp only
    split
    · intro q1
      obtain ⟨a, xs, rfl, ha, da⟩ := dv_lst r1
      refine ⟨a, xs, rfl, .of (imm_sub _ _ ha), fun p hp => ?_⟩
      obtain ⟨m2, g2, i2⟩ := m1.new hp (.lst xs.reverse)
      exact k _ _ _ _ (g1.trans g2) m2 (dv_lst_mk i2 (DqAll_mono (g2.imm S) _ _ (DqAll_rev da))) q1
    · exact False.elim⟩
end

/-! ### tests -/
def onB (d : D) (k : Bool → Prop) : Prop := match d with
  | .dat (.bool b) => k b
  | _ => False
theorem onB_of {d : D} {k : Bool → Prop} (h : onB d k) : ∃ b, d = .dat (.bool b) ∧ k b := by
  unfold onB at h
  split at h
  · exact ⟨_, rfl, h⟩
  · exact h.elim
def dB (te : DE) : DT := fun δ M Q => te δ M fun d M1 => onB d fun b => Q b M1
def dAnd (t u : DT) : DT := fun δ M Q => t δ M fun c M1 => if c = true then u δ M1 Q else Q false M1
def dOr (t u : DT) : DT := fun δ M Q => t δ M fun c M1 => if c = true then Q true M1 else u δ M1 Q
def dNot (t : DT) : DT := fun δ M Q => t δ M fun c M1 => Q (!c) M1
def dAndV (ta tb : DE) : DE := fun δ M Q => ta δ M fun d M1 => onB d fun c => if c = true then tb δ M1 Q else Q (.dat (.bool false)) M1
def dOrV (ta tb : DE) : DE := fun δ M Q => ta δ M fun d M1 => onB d fun c => if c = true then Q (.dat (.bool true)) M1 else tb δ M1 Q
def dNotV (ta : DE) : DE := fun δ M Q => ta δ M fun d M1 => onB d fun c => Q (.dat (.bool (!c))) M1
def dIf (t : DT) (ta tb : DE) : DE := fun δ M Q => t δ M fun c M1 => if c = true then ta δ M1 Q else tb δ M1 Q
/-- truth of a list, a tuple -/
def dTru (te : DE) : DT := fun δ M Q => te δ M fun d M1 => ∃ ds, seqOf M1 d = some ds ∧ Q (!ds.isEmpty) M1
section
variable {X : Cx} {a b c : Expr} {ta tb tc : DE} {t u : DT} {pos : Pos} {rest : List Expr}
theorem bool_of {S : Hid} {M M1 : Mp} {H H1 : Hp} {v : V} {d : D} {Qd : Bool → Mp → Prop} {Q : Bool → Hp → Prop} (k : FinT S M H Qd Q) (g : Grow M H M1 H1) (m : RepM S M1 H1) (r : DV (Imm M1 S H1) v d)
    (q : onB d fun b => Qd b M1) : ∃ b, v = .bl b ∧ Q b H1 := by
  obtain ⟨b, rfl, q⟩ := onB_of q
  cases dv_bl r
  exact ⟨_, rfl, k _ _ _ g m q⟩
theorem qt_cmp {op : CmpOp} {f : F2} (ho : OpR X (compareOp op) (liftR f)) (ha : QE X a ta) (hb : QE X b tb) (hm : behindInMarks op b = false) : QT X (.Compare a [op] [b] pos) (dB (dOp f ta tb)) :=
  PT_imp (pt_cmpR ho ha hb hm) fun σ H Q ⟨S, δ, M, Qd, r, h, k⟩ => tOp_lift ⟨S, δ, M, _, r, h, fun d M1 v H1 g1 m1 r1 q1 => bool_of k g1 m1 r1 q1⟩
theorem qt_val (h : QE X a ta) (he : ∀ whole, isTrue a X.env whole = (do let v ← whole; standAt a.pos; holding [v] (truthy v)) := by intro _; rfl) : QT X a (dB ta) :=
  PT_imp (pt_val h he) fun σ H Q ⟨S, δ, M, Qd, r, h, k⟩ => ⟨S, δ, M, _, r, h, fun d M1 v H1 g1 m1 r1 q1 => bool_of k g1 m1 r1 q1⟩
theorem qt_truth (h : QE X a ta) (he : ∀ whole, isTrue a X.env whole = (do let v ← whole; standAt a.pos; holding [v] (truthy v)) := by intro _; rfl) : QT X a (dTru ta) :=
  PT_imp (pt_truth h he) fun σ H Q ⟨S, δ, M, Qd, r, h, k⟩ => ⟨S, δ, M, _, r, h, fun d M1 v H1 g1 m1 r1 ⟨ds, e, q1⟩ => by
    obtain ⟨p, xs, rfl, hq, hd⟩ := seq_at (K := X.K) m1 r1 e
    have el : (!xs.isEmpty) = !ds.isEmpty := by
      have := DVs_len hd
      cases xs <;> cases ds <;> first | rfl | cases this
    refine ⟨!ds.isEmpty, ?_, k _ _ _ g1 m1 q1⟩
    rcases hq with hq | hq
    · exact .inl ⟨xs, hq, el.symm⟩
    · exact .inr (.inl ⟨xs, hq, el.symm⟩)⟩
theorem qt_not (h : QT X a t) : QT X (.UnaryOp .Not a pos) (dNot t) := PT_imp (pt_not h) fun σ H Q ⟨S, δ, M, Qd, r, h, k⟩ => ⟨S, δ, M, _, r, h, fun b M1 H1 g1 m1 q1 => k _ _ _ g1 m1 q1⟩
theorem qw_and1 (h : QT X a t) : QW X (.BoolOp .And [a] pos) t := pw_and1 h
theorem qw_or1 (h : QT X a t) : QW X (.BoolOp .Or [a] pos) t := pw_or1 h
theorem qw_and (ha : QT X a t) (hb : QW X (.BoolOp .And (b :: rest) pos) u) : QW X (.BoolOp .And (a :: b :: rest) pos) (dAnd t u) := PW_imp (pw_and ha hb) fun σ H Q ⟨S, δ, M, Qd, r, h, k⟩ =>
  ⟨S, δ, M, _, r, h, fun c M1 H1 g1 m1 q1 => by
    cases c with
    | true => exact ⟨S, δ, M1, _, r.grow g1 m1, q1, k.grow g1⟩
    | false => exact k _ _ _ g1 m1 q1⟩
theorem qw_or (ha : QT X a t) (hb : QW X (.BoolOp .Or (b :: rest) pos) u) : QW X (.BoolOp .Or (a :: b :: rest) pos) (dOr t u) := PW_imp (pw_or ha hb) fun σ H Q ⟨S, δ, M, Qd, r, h, k⟩ =>
  ⟨S, δ, M, _, r, h, fun c M1 H1 g1 m1 q1 => by
    cases c with
    | false => exact ⟨S, δ, M1, _, r.grow g1 m1, q1, k.grow g1⟩
    | true => exact k _ _ _ g1 m1 q1⟩
theorem q_one {op} (h : QE X a ta) : QE X (.BoolOp op [a] pos) ta := pe_one h
theorem q_and (ha : QE X a ta) (hb : QE X (.BoolOp .And (b :: rest) pos) tb) : QE X (.BoolOp .And (a :: b :: rest) pos) (dAndV ta tb) := PE_imp (pe_and ha hb) fun σ H Q ⟨S, δ, M, Qd, r, h, k⟩ =>
  ⟨S, δ, M, _, r, h, fun d M1 v H1 g1 m1 r1 q1 => by
    obtain ⟨c, rfl, q1⟩ := onB_of q1
    cases dv_bl r1
    refine ⟨c, rfl, ?_⟩
    cases c with
    | true => exact ⟨S, δ, M1, _, r.grow g1 m1, q1, k.grow g1⟩
    | false => exact k _ _ _ _ g1 m1 dvB q1⟩
theorem q_or (ha : QE X a ta) (hb : QE X (.BoolOp .Or (b :: rest) pos) tb) : QE X (.BoolOp .Or (a :: b :: rest) pos) (dOrV ta tb) := PE_imp (pe_or ha hb) fun σ H Q ⟨S, δ, M, Qd, r, h, k⟩ =>
  ⟨S, δ, M, _, r, h, fun d M1 v H1 g1 m1 r1 q1 => by
    obtain ⟨c, rfl, q1⟩ := onB_of q1
    cases dv_bl r1
    refine ⟨c, rfl, ?_⟩
    cases c with
    | false => exact ⟨S, δ, M1, _, r.grow g1 m1, q1, k.grow g1⟩
    | true => exact k _ _ _ _ g1 m1 dvB q1⟩
theorem q_not (ha : QE X a ta) : QE X (.UnaryOp .Not a pos) (dNotV ta) := PE_imp (pe_not ha) fun σ H Q ⟨S, δ, M, Qd, r, h, k⟩ =>
  ⟨S, δ, M, _, r, h, fun d M1 v H1 g1 m1 r1 q1 => by
    obtain ⟨c, rfl, q1⟩ := onB_of q1
    cases dv_bl r1
    exact ⟨c, rfl, k _ _ _ _ g1 m1 dvB q1⟩⟩
theorem q_ifExp (hc : QT X c t) (ha : QE X a ta) (hb : QE X b tb) : QE X (.IfExp c a b pos) (dIf t ta tb) := PE_imp (pe_ifExp hc ha hb) fun σ H Q ⟨S, δ, M, Qd, r, h, k⟩ =>
  ⟨S, δ, M, _, r, h, fun c M1 H1 g1 m1 q1 => by
    cases c with
    | true => exact ⟨S, δ, M1, _, r.grow g1 m1, q1, k.grow g1⟩
    | false => exact ⟨S, δ, M1, _, r.grow g1 m1, q1, k.grow g1⟩⟩
def dUn (f : D → Mp → DK → Prop) (ta : DE) : DE := fun δ M Q => ta δ M fun x M1 => f x M1 Q
def negD : D → Mp → DK → Prop
  | .dat (.int i), M, Q => Q (.dat (.int (-i))) M
  | _, _, _ => False
theorem q_neg (ha : QE X a ta) : QE X (.UnaryOp .USub a pos) (dUn negD ta) := PE_imp (pe_un un_neg ha) fun σ H Q ⟨S, δ, M, Qd, r, h, k⟩ =>
  ⟨S, δ, M, _, r, h, fun d M1 v H1 g1 m1 r1 q1 => by
    revert q1
    unfold negD
    split
    · intro q1
      cases dv_int r1
      exact ⟨_, rfl, k _ _ _ _ g1 m1 dvI q1⟩
    · exact False.elim⟩
/-- a op1 b op2 c -/
def dChain (f f' : F2) (ta tb tc : DE) : DE := fun δ M Q => ta δ M fun x M1 => tb δ M1 fun y M2 => f x y M2 fun z M3 => onB z fun k => if k = true then tc δ M3 fun w M4 => f' y w M4 Q else Q (.dat (.bool false)) M3
theorem chain_lift {f f' : F2} {σ : L2.St} {H : Hp} {Q : VK} (h : liftE (dChain f f' ta tb tc) σ H Q) : tChain (liftR f) (liftR f') (liftE ta) (liftE tb) (liftE tc) σ H Q := by
  obtain ⟨S, δ, M, Qd, r, h, k⟩ := h
  refine ⟨S, δ, M, _, r, h, fun x M1 v H1 g1 m1 r1 q1 => ⟨S, δ, M1, _, r.grow g1 m1, q1, fun y M2 u H2 g2 m2 r2 q2 => ⟨S, M2, x, y, _, m2, r1.mono (g2.imm S), r2, q2, fun z M3 w H3 g3 m3 r3 q3 => ?_⟩⟩⟩
  obtain ⟨kk, rfl, q3⟩ := onB_of q3
  cases dv_bl r3
  refine ⟨kk, rfl, ?_⟩
  cases kk with
  | true => exact ⟨S, δ, M3, _, r.grow ((g1.trans g2).trans g3) m3, q3, fun w M4 wv H4 g4 m4 r4 q4 => ⟨S, M4, y, w, Qd, m4, r2.mono ((g3.trans g4).imm S), r4, q4, k.grow (((g1.trans g2).trans g3).trans g4)⟩⟩
  | false => exact k _ _ _ _ ((g1.trans g2).trans g3) m3 dvB q3
theorem q_chain {op op' : CmpOp} {f f' : F2} (ho : OpR X (compareOp op) (liftR f)) (ho' : OpR X (compareOp op') (liftR f')) (ha : QE X a ta) (hb : QE X b tb) (hc : QE X c tc)
    (hm : lastMarks [op, op'] [b, c] = false := by with_unfolding_all rfl) : QE X (.Compare a [op, op'] [b, c] pos) (dChain f f' ta tb tc) := PE_imp (pe_chain ho ho' ha hb hc hm) fun _ _ _ => chain_lift
theorem qt_chain {op op' : CmpOp} {f f' : F2} (ho : OpR X (compareOp op) (liftR f)) (ho' : OpR X (compareOp op') (liftR f')) (ha : QE X a ta) (hb : QE X b tb) (hc : QE X c tc)
    (hm : lastMarks [op, op'] [b, c] = false := by with_unfolding_all rfl) : QT X (.Compare a [op, op'] [b, c] pos) (dB (dChain f f' ta tb tc)) :=
  PT_imp (pt_chain ho ho' ha hb hc hm) fun σ H Q ⟨S, δ, M, Qd, r, h, k⟩ => chain_lift ⟨S, δ, M, _, r, h, fun d M1 v H1 g1 m1 r1 q1 => bool_of k g1 m1 r1 q1⟩
end
end DL
set_option Elab.async false
set_option linter.all false
set_option maxRecDepth 100000
/-! DL4: statements, targets, loops, comprehensions. -/
namespace DL
open PySem PySem.Spec PyProof.Rows L2

/-! ### blocks and small statements -/
def dNext : DS := fun E δ M => E.nx δ M
def dSeq (t u : DS) : DS := fun E δ M => t { nx := u E, rt := E.rt, bk := E.bk, ct := E.ct, xn := E.xn } δ M
def dBreak : DS := fun E δ M => E.bk δ M
def dCont : DS := fun E δ M => E.ct δ M
def dNever : DS := fun _ _ _ => False
def dDrop (te : DE) : DS := fun E δ M => te δ M fun _ M1 => E.nx δ M1
def dRet (te : DE) : DS := fun E δ M => te δ M E.rt
def dIfS (c : DT) (t u : DS) : DS := fun E δ M => c δ M fun b M1 => if b = true then t E δ M1 else u E δ M1
section
variable {X : Cx} {st : Stmt} {sts : List Stmt} {t u : DS} {e : Expr} {te : DE} {pos : Pos}
theorem qss_nil : QSs X [] dNext := PSs_imp pss_nil fun E σ H ⟨S, δ, M, Ed, r, h, k⟩ => k.nx δ M σ H .refl r h
theorem seq_lift {W : WX} {E : Ends} {σ : L2.St} {H : Hp} (h : liftS W (dSeq t u) E σ H) : tSeq (liftS W t) (liftS W u) E σ H := by
  obtain ⟨S, δ, M, Ed, r, h, k⟩ := h
  exact ⟨S, δ, M, _, r, h, ⟨fun δ' M' σ' H' g' r' q' => ⟨S, δ', M', Ed, r', q', k.grow g'⟩, k.rt, k.bk, k.ct, k.xn⟩⟩
theorem qss_cons (h1 : QS X st t) (h2 : QSs X sts u) : QSs X (st :: sts) (dSeq t u) := PSs_imp (pss_cons h1 h2) fun _ _ _ => seq_lift
theorem qss_one (h1 : QS X st t) : QSs X [st] t := pss_one h1
theorem qs_pass : QS X (.Pass pos) dNext := PS_imp ps_pass fun E σ H ⟨S, δ, M, Ed, r, h, k⟩ => k.nx δ M σ H .refl r h
theorem qs_break : QS X (.Break pos) dBreak := PS_imp ps_break fun E σ H ⟨S, δ, M, Ed, r, h, k⟩ => k.bk δ M σ H .refl r h
theorem qs_continue : QS X (.Continue pos) dCont := PS_imp ps_continue fun E σ H ⟨S, δ, M, Ed, r, h, k⟩ => k.ct δ M σ H .refl r h
theorem qs_never : QS X st dNever := PS_imp ps_never fun E σ H ⟨S, δ, M, Ed, r, h, k⟩ => h
theorem qss_never : QSs X sts dNever := PSs_imp pss_never fun E σ H ⟨S, δ, M, Ed, r, h, k⟩ => h
theorem qs_expr (he : QE X e te) (hs : swapsWith e none pos.line X.env = pure false := by rfl) : QS X (.Expr e pos) (dDrop te) := PS_imp (ps_expr he hs) fun E σ H ⟨S, δ, M, Ed, r, h, k⟩ =>
  ⟨S, δ, M, _, r, h, fun d M1 v H1 g1 m1 r1 q1 => k.nx δ M1 σ H1 g1 (r.grow g1 m1) q1⟩
theorem qs_ret (he : QE X e te) : QS X (.Return (some e) pos) (dRet te) := PS_imp (ps_ret he) fun E σ H ⟨S, δ, M, Ed, r, h, k⟩ => ⟨S, δ, M, _, r, h, k.rt⟩
theorem qs_if {c : Expr} {a b : List Stmt} {tc : DT} (hc : QT X c tc) (ha : QSs X a t) (hb : QSs X b u) : QS X (.If c a b pos) (dIfS tc t u) := PS_imp (ps_if hc ha hb) fun E σ H ⟨S, δ, M, Ed, r, h, k⟩ =>
  ⟨S, δ, M, _, r, h, fun b M1 H1 g1 m1 q1 => by
    cases b with
    | true => exact ⟨S, δ, M1, Ed, r.grow g1 m1, q1, k.grow g1⟩
    | false => exact ⟨S, δ, M1, Ed, r.grow g1 m1, q1, k.grow g1⟩⟩
end

/-! ### targets -/
abbrev DG := D → Sd → Mp → (Sd → Mp → Prop) → Prop
abbrev DGs := List D → Sd → Mp → (Sd → Mp → Prop) → Prop
def liftG (vs : List Nat) (g : DG) : TG := fun v σ H Q => ∃ S d δ M Qd, Rep S δ M σ H ∧ DV (Imm M S H) v d ∧ g d δ M Qd ∧ ∀ δ' M' σ' H', Grow M H M' H' → Rep S δ' M' σ' H' → wipe σ' vs = wipe σ vs → Qd δ' M' → Q σ' H'
def liftGs (vs : List Nat) (g : DGs) : TGs := fun xs σ H Q => ∃ S ds δ M Qd, Rep S δ M σ H ∧ DVs (Imm M S H) xs ds ∧ g ds δ M Qd ∧ ∀ δ' M' σ' H', Grow M H M' H' → Rep S δ' M' σ' H' → wipe σ' vs = wipe σ vs → Qd δ' M' → Q σ' H'
abbrev QG (X : Cx) (e : Expr) (vs : List Nat) (g : DG) : Prop := PG X e (liftG vs g)
abbrev QGs (X : Cx) (e : List Expr) (vs : List Nat) (g : DGs) : Prop := PGs X e (liftGs vs g)
theorem wipe_set (σ : L2.St) (i : Nat) (y : Option V) : ∀ vs : List Nat, i ∈ vs → wipe (σ.set i y) vs = wipe σ vs
  | [], h => by cases h
  | v :: vs, h => by
    unfold wipe
    by_cases e : i ∈ vs
    · rw [wipe_set σ i y vs e]
    · have ev : i = v := by rcases List.mem_cons.mp h with z | z; exact z; exact absurd z e
      subst ev
      have : ∀ ws : List Nat, i ∉ ws → wipe (σ.set i y) ws = (wipe σ ws).set i y := by
        intro ws
        induction ws with
        | nil => intro _; rfl
        | cons w ws ih =>
          intro hw
          unfold wipe
          rw [ih (fun z => hw (List.mem_cons_of_mem _ z)), List.set_comm]
          intro z
          exact hw (by rw [z]; exact List.mem_cons_self)
      rw [this vs e, List.set_set]
def dName (i : Nat) : DG := fun d δ M Q => Q (δ.set i (some d)) M
def gsNil : DGs := fun ds δ M Q => ds = [] ∧ Q δ M
def gsCons (g : DG) (u : DGs) : DGs := fun ds δ M Q => match ds with
  | d :: r => g d δ M fun δ' M' => u r δ' M' Q
  | [] => False
/-- a tuple of n parts is parted -/
def dTupG (n : Nat) (g : DGs) : DG := fun d δ M Q => match d with
  | .dat (.tuple ps) => ps.length = n ∧ g (ps.map .dat) δ M Q
  | _ => False
section
variable {X : Cx} {pos : Pos} {vs : List Nat}
theorem qg_name {i : Nat} {x : Str} (hN : X.N.Nodup) (hi : X.N[i]? = some x) (hx : Loc X.env.scope x) (hm : i ∈ vs := by decide) (hf : X.fn x = true ∨ X.env.scope.names.lookup x = some .local := by first | exact .inl rfl | exact .inr rfl | assumption) : QG X (.Name x pos) vs (dName i) :=
  PG_imp (pg_name hN hi hx hf) fun v σ H Q ⟨S, d, δ, M, Qd, r, rv, h, k⟩ => k _ M _ H .refl (r.set i rv) (wipe_set σ i _ vs hm) h
theorem qgs_nil : QGs X [] vs gsNil := PGs_imp pgs_nil fun xs σ H Q ⟨S, ds, δ, M, Qd, r, rv, h, k⟩ => by
  obtain ⟨rfl, h⟩ := h
  cases rv
  exact ⟨rfl, k δ M σ H .refl r rfl h⟩
theorem qgs_cons {e : Expr} {es : List Expr} {g : DG} {u : DGs} (h1 : QG X e vs g) (h2 : QGs X es vs u)
    (hs : (assignEach (e :: es) X.env).map (·.2) = assign e X.env :: (assignEach es X.env).map (·.2) := by rfl) : QGs X (e :: es) vs (gsCons g u) := PGs_imp (pgs_cons h1 h2 hs) fun xs σ H Q ⟨S, ds, δ, M, Qd, r, rv, h, k⟩ => by
  cases rv with
  | nil => exact h.elim
  | cons r1 r2 => exact ⟨_, _, rfl, S, _, δ, M, _, r, r1, h, fun δ' M' σ' H' g' r' e' q' => ⟨S, _, δ', M', Qd, r', DVs.mono (g'.imm S) r2, q', fun δ2 M2 σ2 H2 g2 rr e2 q2 => k δ2 M2 σ2 H2 (g'.trans g2) rr (e2.trans e') q2⟩⟩
theorem qg_tup {es : List Expr} {k : Nat} {g : DGs} {n : Nat} (hc : X.calm = true) (h : QGs X es vs g)
    (hn : (assignEach es X.env).length = n := by rfl) (hst : (assignEach es X.env).findIdx? (·.1) = none := by rfl) : QG X (.Tuple es k pos) vs (dTupG n g) := PG_imp (pg_tup hc h hn hst) fun v σ H Q ⟨S, d, δ, M, Qd, r, rv, h, k⟩ => by
  unfold dTupG at h
  split at h
  · obtain ⟨a, xs, rfl, ha, da⟩ := dv_tup rv
    exact ⟨a, xs, rfl, .of (imm_sub _ _ ha), by rw [da.length]; exact h.1, S, _, δ, M, Qd, r, da.dvs, h.2, k⟩
  · exact h.elim
/-- o[i] = v -/
abbrev FSet := D → D → D → Mp → (Mp → Prop) → Prop
def liftSet (f : FSet) : TSet := fun o i v H Q => ∃ S M dox di dv Kd, RepM S M H ∧ DV (Imm M S H) o dox ∧ DV (Imm M S H) i di ∧ DV (Imm M S H) v dv ∧ f dox di dv M Kd ∧ ∀ M' H', Grow M H M' H' → RepM S M' H' → Kd M' → Q H'
def setL : FSet := fun o i v M Q => match o, i with
  | .ref a, .dat (.int i) => ∃ ds j, M a = some (.lst ds) ∧ ixN ds.length i = some j ∧ Q (updM M a (.lst (ds.set j v)))
  | _, _ => False
theorem p_setL : PSet X (liftSet setL) := by
  rintro pins s σ H o i v ov iv u Q I ro ri rv ⟨S, M, dox, di, dv, Kd, m, ho, hi, hv, h, k⟩
  unfold setL at h
  split at h
  · rename_i a i'
    obtain ⟨ds, j, ea, ej, q⟩ := h
    cases (show o = .ref a from ho)
    cases dv_int hi
    obtain ⟨xs, hx, hd⟩ := m.obj a _ ea
    refine set_list pins s σ H _ _ v ov iv u Q I ro ri rv ⟨a, xs, i', j, rfl, rfl, hx, by rw [DVs_len hd]; exact ej, ?_⟩
    obtain ⟨m1, g1⟩ := m.put (o := .lst (ds.set j dv)) (u := .lst (xs.set j v)) (by rw [ea]; rfl) ⟨_, upd_same, DVs_set j hd hv⟩
    exact k _ _ g1 m1 q
  · exact h.elim
def dSub (to ti : DE) (f : FSet) : DG := fun v δ M Q => to δ M fun o M1 => ti δ M1 fun i M2 => f o i v M2 fun M3 => Q δ M3
theorem qg_sub {o i : Expr} {to ti : DE} {f : FSet} (ho : QE X o to) (hi : QE X i ti) (hs : PSet X (liftSet f))
    (ha : ∀ v, assign (.Subscript o i pos) X.env v = (do
      let ov ← holding [v] (eval o X.env)
      let iv ← holding [v, ov] (eval i X.env)
      standAt pos
      holding [v, ov, iv] (setItem ov iv v)
      release [v, ov, iv] []) := by intro _; rfl) : QG X (.Subscript o i pos) vs (dSub to ti f) := PG_imp (pg_sub ho hi hs ha) fun v σ H Q ⟨S, d, δ, M, Qd, r, rv, h, k⟩ =>
  ⟨S, δ, M, _, r, h, fun o M1 ov H1 g1 m1 r1 q1 => ⟨S, δ, M1, _, r.grow g1 m1, q1, fun i M2 iv H2 g2 m2 r2 q2 =>
    ⟨S, M2, o, i, d, _, m2, r1.mono (g2.imm S), r2, rv.mono ((g1.trans g2).imm S), q2, fun M3 H3 g3 m3 q3 => k δ M3 σ H3 ((g1.trans g2).trans g3) (r.grow ((g1.trans g2).trans g3) m3) rfl q3⟩⟩⟩
/-- target = value -/
def dAsg (te : DE) (g : DG) : DS := fun E δ M => te δ M fun d M1 => g d δ M1 E.nx
theorem asg_lift {W : WX} {te : DE} {g : DG} {E : Ends} {σ : L2.St} {H : Hp} (h : liftS W (dAsg te g) E σ H) : tAsg (liftE te) (liftG vs g) E σ H := by
  obtain ⟨S, δ, M, Ed, r, h, k⟩ := h
  exact ⟨S, δ, M, _, r, h, fun d M1 v H1 g1 m1 r1 q1 => ⟨S, d, δ, M1, _, r.grow g1 m1, r1, q1, fun δ' M' σ' H' g' r' _ q' => k.nx δ' M' σ' H' (g1.trans g') r' q'⟩⟩
theorem qs_asg {tg e : Expr} {te : DE} {g : DG} (he : QE X e te) (hg : QG X tg vs g) (hs : swapsWithSole [tg] e pos.line X.env = pure false := by rfl) (hw : swappedStores [tg] e X.env = pure none := by rfl)
    (h1 : (assignEach [tg] X.env).map (·.2) = [assign tg X.env] := by rfl) : QS X (.Assign [tg] e pos) (dAsg te g) := PS_imp (ps_asg he hg hs hw h1) fun _ _ _ => asg_lift
theorem qs_set {i : Nat} {x : Str} {e : Expr} {te : DE} {pos' : Pos} (hN : X.N.Nodup) (hi : X.N[i]? = some x) (hx : Loc X.env.scope x) (he : QE X e te) (hs : swapsWith e (some (.Name x pos')) pos.line X.env = pure false := by rfl) (hf : X.fn x = true ∨ X.env.scope.names.lookup x = some .local := by first | exact .inl rfl | exact .inr rfl | assumption) :
    QS X (.Assign [.Name x pos'] e pos) (dAsg te (dName i)) := PS_imp (ps_set hN hi hx he hs hf) fun E σ H ⟨S, δ, M, Ed, r, h, k⟩ =>
  ⟨S, δ, M, _, r, h, fun d M1 v H1 g1 m1 r1 q1 => k.nx _ M1 _ H1 g1 ((r.grow g1 m1).set i r1) q1⟩
/-- a, b = x, y -/
def dPar (i j : Nat) (ta : DA) : DS := fun E δ M => ta δ M fun ds M1 => match ds with
  | [v, w] => E.nx ((δ.set i (some v)).set j (some w)) M1
  | _ => False
theorem qs_par {i j : Nat} {x y : Str} {a b : Expr} {ta : DA} {px py pt : Pos} {kt k2 pt2} (hc : X.calm = true) (hN : X.N.Nodup) (hi : X.N[i]? = some x) (hj : X.N[j]? = some y) (hij : i ≠ j)
    (hx : X.env.scope.names.lookup x = some .local) (hy : X.env.scope.names.lookup y = some .local) (ha : QA X [a, b] ta)
    (hw : swappedStores [.Tuple [.Name x px, .Name y py] kt pt] (.Tuple [a, b] k2 pt2) X.env = pure (some [x, y]))
    (hs : swapsWithSole [.Tuple [.Name x px, .Name y py] kt pt] (.Tuple [a, b] k2 pt2) pos.line X.env = pure false := by rfl) :
    QS X (.Assign [.Tuple [.Name x px, .Name y py] kt pt] (.Tuple [a, b] k2 pt2) pos) (dPar i j ta) := PS_imp (ps_par hc hN hi hj hij hx hy ha hw hs) fun E σ H ⟨S, δ, M, Ed, r, h, k⟩ =>
  ⟨S, δ, M, _, r, h, fun ds M1 vs H1 g1 m1 r1 q1 => by
    revert q1
    dsimp only
    split
    · intro q1
      cases r1 with
      | cons ra rb =>
        cases rb with
        | cons rb rc =>
          cases rc
          exact ⟨_, _, rfl, k.nx _ M1 _ H1 g1 (((r.grow g1 m1).set i ra).set j rb) q1⟩
    · exact False.elim⟩
def dPar3 (i j l : Nat) (ta : DA) : DS := fun E δ M => ta δ M fun ds M1 => match ds with
  | [u, v, w] => E.nx (((δ.set i (some u)).set j (some v)).set l (some w)) M1
  | _ => False
theorem qs_par3 {i j l : Nat} {x y z : Str} {a b c : Expr} {ta : DA} {px py pz pt : Pos} {kt k2 pt2} (hc : X.calm = true) (hN : X.N.Nodup) (hi : X.N[i]? = some x) (hj : X.N[j]? = some y) (hl : X.N[l]? = some z) (hij : i ≠ j) (hil : i ≠ l) (hjl : j ≠ l)
    (hx : X.env.scope.names.lookup x = some .local) (hy : X.env.scope.names.lookup y = some .local) (hz : X.env.scope.names.lookup z = some .local) (ha : QA X [a, b, c] ta)
    (hw : swappedStores [.Tuple [.Name x px, .Name y py, .Name z pz] kt pt] (.Tuple [a, b, c] k2 pt2) X.env = pure (some [x, y, z]))
    (hs : swapsWithSole [.Tuple [.Name x px, .Name y py, .Name z pz] kt pt] (.Tuple [a, b, c] k2 pt2) pos.line X.env = pure false := by rfl) :
    QS X (.Assign [.Tuple [.Name x px, .Name y py, .Name z pz] kt pt] (.Tuple [a, b, c] k2 pt2) pos) (dPar3 i j l ta) := PS_imp (ps_par3 hc hN hi hj hl hij hil hjl hx hy hz ha hw hs) fun E σ H ⟨S, δ, M, Ed, r, h, k⟩ =>
  ⟨S, δ, M, _, r, h, fun ds M1 vs H1 g1 m1 r1 q1 => by
    revert q1
    dsimp only
    split
    · intro q1
      cases r1 with
      | cons ra rb =>
        cases rb with
        | cons rb rc =>
          cases rc with
          | cons rc rd =>
            cases rd
            exact ⟨_, _, _, rfl, k.nx _ M1 _ H1 g1 ((((r.grow g1 m1).set i ra).set j rb).set l rc) q1⟩
    · exact False.elim⟩
/-- name op= e -/
def dAug (i : Nat) (te : DE) (f : F2) : DS := fun E δ M => match δ[i]? with
  | some (some x) => te δ M fun y M1 => f x y M1 fun z M2 => E.nx (δ.set i (some z)) M2
  | _ => False
theorem qs_aug {i : Nat} {x : Str} {e : Expr} {te : DE} {op : Operator} {f : F2} {pos' : Pos} (hN : X.N.Nodup) (hi : X.N[i]? = some x) (hx : Loc X.env.scope x) (he : QE X e te) (ho : PIp X op (liftR f)) (hf : X.fn x = true ∨ X.env.scope.names.lookup x = some .local := by first | exact .inl rfl | exact .inr rfl | assumption) :
    QS X (.AugAssign (.Name x pos') op e pos) (dAug i te f) := PS_imp (ps_aug hN hi hx he ho hf) fun E σ H ⟨S, δ, M, Ed, r, h, k⟩ => by
  unfold dAug at h
  split at h
  · rename_i d e1
    obtain ⟨v, e2, rv⟩ := r.s.2 i d e1
    exact ⟨v, e2, S, δ, M, _, r, h, fun y M1 u H1 g1 m1 r1 q1 => ⟨S, M1, d, y, _, m1, rv.mono (g1.imm S), r1, q1, fun z M2 w H2 g2 m2 r2 q2 => k.nx _ M2 _ H2 (g1.trans g2) ((r.grow (g1.trans g2) m2).set i r2) q2⟩⟩
  · exact h.elim
def addI : F2
  | .dat (.int i), .dat (.int j), M, Q => Q (.dat (.int (i + j))) M
  | _, _, _, _ => False
theorem p_addI : PIp X .Add (liftR addI) := by
  rintro pins s σ H x y v u Q I rx ry ⟨S, M, dx, dy, Qd, m, hx, hy, h, k⟩
  unfold addI at h
  split at h
  · cases dv_int hx; cases dv_int hy
    exact ip_add pins s σ H _ _ v u Q I rx ry ⟨_, _, rfl, rfl, k.here m dvI h⟩
  · exact h.elim
theorem p_subI : PIp X .Sub (liftR subD) := by
  rintro pins s σ H x y v u Q I rx ry ⟨S, M, dx, dy, Qd, m, hx, hy, h, k⟩
  unfold subD at h
  split at h
  · cases dv_int hx; cases dv_int hy
    exact ip_sub pins s σ H _ _ v u Q I rx ry ⟨_, _, rfl, rfl, k.here m dvI h⟩
  · exact h.elim
/-- xs[i] of a list that changes, i ahead of its end -/
def getL : F2 := fun x i M Q => match x, i with
  | .ref a, .dat (.int i) => ∃ ds j d, M a = some (.lst ds) ∧ i = (j : Nat) ∧ ds[j]? = some d ∧ Q d M
  | _, _ => False
theorem p_getL : PGet X (liftR getL) := by
  rintro pins s σ H x y v u Q I rx ry ⟨S, M, dx, dy, Qd, m, hx, hy, h, k⟩
  unfold getL at h
  split at h
  · rename_i a i
    obtain ⟨ds, j, d, ea, ej, ed, q⟩ := h
    cases (show x = .ref a from hx)
    cases dv_int hy
    cases rx
    obtain ⟨t, rfl⟩ := ry
    obtain ⟨xs, hxs, hd⟩ := m.obj a _ ea
    obtain ⟨z, ez, rz⟩ := DVs_get hd ed
    obtain ⟨its, r, pl, hz⟩ := I.list (.of hxs)
    obtain ⟨w, ew, rw'⟩ := r.get ez
    have hn := line63
    have hl := r.length
    have hj : j < xs.length := by
      rcases Nat.lt_or_ge j xs.length with q | q
      · exact q
      · rw [List.getElem?_eq_none q] at ez; cases ez
    subst ej
    exact wpAny_getItem_list pl.isList (by omega) (by omega) (x := w) (by rw [Int.toNat_natCast]; simpa using ew) ⟨z, H, I, rw', k.here m rz q⟩
  · exact h.elim
def dAugS (to ti te : DE) (fg f : F2) (fs : FSet) : DS := fun E δ M => to δ M fun o M1 => ti δ M1 fun i M2 => fg o i M2 fun x M3 => te δ M3 fun y M4 => f x y M4 fun z M5 => fs o i z M5 fun M6 => E.nx δ M6
theorem qs_augS {o i e : Expr} {to ti te : DE} {fg f : F2} {fs : FSet} {op : Operator} {tpos : Pos} (ho : QE X o to) (hi : QE X i ti) (hg : PGet X (liftR fg)) (he : QE X e te) (hp : PIp X op (liftR f)) (hs : PSet X (liftSet fs))
    (ha : ∀ ov iv new, augStore i ov iv new = (do holding [new, ov, iv] (setItem ov iv new); release [new, ov, iv] []; pure .next) := by intros; rfl) : QS X (.AugAssign (.Subscript o i tpos) op e pos) (dAugS to ti te fg f fs) :=
  PS_imp (ps_augS ho hi hg he hp hs ha) fun E σ H ⟨S, δ, M, Ed, r, h, k⟩ =>
  ⟨S, δ, M, _, r, h, fun o M1 ov H1 g1 m1 r1 q1 => ⟨S, δ, M1, _, r.grow g1 m1, q1, fun i M2 iv H2 g2 m2 r2 q2 => ⟨S, M2, o, i, _, m2, r1.mono (g2.imm S), r2, q2, fun x M3 xv H3 g3 m3 r3 q3 =>
    ⟨S, δ, M3, _, r.grow ((g1.trans g2).trans g3) m3, q3, fun y M4 yv H4 g4 m4 r4 q4 => ⟨S, M4, x, y, _, m4, r3.mono (g4.imm S), r4, q4, fun z M5 zv H5 g5 m5 r5 q5 =>
      ⟨S, M5, o, i, z, _, m5, r1.mono ((((g2.trans g3).trans g4).trans g5).imm S), r2.mono (((g3.trans g4).trans g5).imm S), r5, q5, fun M6 H6 g6 m6 q6 =>
        k.nx δ M6 σ H6 (((((g1.trans g2).trans g3).trans g4).trans g5).trans g6) (r.grow (((((g1.trans g2).trans g3).trans g4).trans g5).trans g6) m6) q6⟩⟩⟩⟩⟩⟩
end

/-! ### while -/
def dWhile (c : DT) (tb : DS) : DS := fun E δ M => ∃ W : Nat → Sd → Mp → Prop, (∃ m, W m δ M) ∧ ∀ m δ M, W m δ M →
  c δ M fun b M1 => if b = true then tb { nx := fun δ' M' => ∃ m', m' < m ∧ W m' δ' M', rt := E.rt, ct := fun δ' M' => ∃ m', m' < m ∧ W m' δ' M', bk := E.nx, xn := E.xn } δ M1 else E.nx δ M1
section
variable {X : Cx} {pos : Pos}
theorem qs_while {c : Expr} {body : List Stmt} {tc : DT} {tb : DS} (hp : PassesOwn (model X.prog X.w) X.A X.env X.xe) (hc : QT X c tc) (hb : QSs X body tb) : QS X (.While c body [] pos) (dWhile tc tb) := PS_imp (ps_while hp hc hb) fun E σ H ⟨S, δ, M, Ed, r, ⟨W, ⟨m0, w0⟩, turn⟩, k⟩ => by
  refine ⟨fun m σ' H' => ∃ δ' M', Rep S δ' M' σ' H' ∧ Grow M H M' H' ∧ W m δ' M', ⟨m0, δ, M, r, .refl, w0⟩, ?_⟩
  rintro m σ1 H1 ⟨δ1, M1, r1, g1, w1⟩
  refine ⟨S, δ1, M1, _, r1, turn m δ1 M1 w1, fun b M2 H2 g2 m2 q2 => ?_⟩
  cases b with
  | true =>
    refine ⟨fun σ' H' => ∃ δ' M', Rep S δ' M' σ' H' ∧ Grow M H M' H' ∧ ∃ m', m' < m ∧ W m' δ' M', fun σ' H' ⟨δ', M', r', g', m', hm, w'⟩ => ⟨m', hm, δ', M', r', g', w'⟩, S, δ1, M2, _, r1.grow g2 m2, q2, ?_⟩
    exact ⟨fun δ' M' σ' H' g' r' q' => ⟨δ', M', r', (g1.trans g2).trans g', q'⟩, k.rt.grow (g1.trans g2), fun δ' M' σ' H' g' r' q' => k.nx δ' M' σ' H' ((g1.trans g2).trans g') r' q', fun δ' M' σ' H' g' r' q' => ⟨δ', M', r', (g1.trans g2).trans g', q'⟩, fun x d δ' M' σ' H' g' => k.xn x d δ' M' σ' H' ((g1.trans g2).trans g')⟩
  | false => exact k.nx δ1 M2 σ1 H2 (g1.trans g2) (r1.grow g2 m2) q2
end

/-! ### what is walked -/
abbrev DI := Sd → Mp → (List D → (Mp → Prop) → Mp → Prop) → Prop
/-- the iterator gives the items, as long as `stay` holds -/
def GoodIt (S : Hid) (J : It) (items : List D) (stay : Mp → Prop) (M0 : Mp) (H0 : Hp) : Prop := ∀ S' i M H, Same (Imm M0 S H0) (Imm M S' H) → RepM S' M H → stay M →
  (∀ d, items[i]? = some d → J.go i H ∧ ∀ x H', J.yld i H x H' → Grow M H M H' ∧ RepM S' M H' ∧ DV (Imm M S' H') x d) ∧ (items.length = i → J.stop i H)
def liftI (di : DI) : TI := fun σ H R => ∃ S δ M Qi, Rep S δ M σ H ∧ di δ M Qi ∧ ∀ items stay M' H' J, Grow M H M' H' → RepM S M' H' → GoodIt S J items stay M' H' → Qi items stay M' → R J H'
abbrev QI (X : Cx) (tg iter : Expr) (di : DI) : Prop := PI X tg iter (liftI di)
def goFor (g : DG) (tb : DS) (E : DEnds) (stay : Mp → Prop) : List D → Sd → Mp → Prop
  | [], δ, M => stay M ∧ E.nx δ M
  | d :: r, δ, M => stay M ∧ g d δ M fun δ2 M2 => tb { nx := goFor g tb E stay r, rt := E.rt, ct := goFor g tb E stay r, bk := E.nx, xn := E.xn } δ2 M2
def dFor (di : DI) (g : DG) (tb : DS) : DS := fun E δ M => di δ M fun items stay M1 => goFor g tb E stay items δ M1
theorem drop_cases {α : Type} (l : List α) (i : Nat) : (l.drop i = [] ∧ l.length ≤ i) ∨ ∃ d, l[i]? = some d ∧ l.drop i = d :: l.drop (i + 1) ∧ i < l.length := by
  rcases Nat.lt_or_ge i l.length with h | h
  · exact .inr ⟨l[i], by simp [h], List.drop_eq_getElem_cons h, h⟩
  · exact .inl ⟨List.drop_of_length_le h, h⟩
section
variable {X : Cx} {pos : Pos}
theorem qs_for {tg iter : Expr} {body : List Stmt} {di : DI} {vs : List Nat} {g : DG} {tb : DS} (hp : PassesOwn (model X.prog X.w) X.A X.env X.xe) (hc : X.calm = true) (hi : QI X tg iter di) (hg : QG X tg vs g) (hb : QSs X body tb)
    (hs : ∀ x, foldedSetIterable iter X.env x = pure x := by intro _; rfl) : QS X (.For tg iter body [] pos) (dFor di g tb) := PS_imp (ps_for hp hc hi hg hb hs) fun E σ H ⟨S, δ, M, Ed, r, h, k⟩ => by
  refine ⟨S, δ, M, _, r, h, fun items stay M1 H1 J g1 m1 good q1 => ?_⟩
  refine ⟨fun i m σ' H' => ∃ δ' M', Rep S δ' M' σ' H' ∧ Grow M1 H1 M' H' ∧ goFor g tb Ed stay (items.drop i) δ' M' ∧ i ≤ items.length ∧ m = items.length - i, ⟨_, δ, M1, r.grow g1 m1, .refl, q1, Nat.zero_le _, rfl⟩, ?_⟩
  rintro i m σ2 H2 ⟨δ2, M2, r2, g2, q2, hle, rfl⟩
  rcases drop_cases items i with ⟨e, hl⟩ | ⟨d, ed, e, hl⟩
  · rw [e] at q2
    exact .inl ⟨(good S i M2 H2 (g2.imm S) r2.m q2.1).2 (Nat.le_antisymm hl hle), k.nx δ2 M2 σ2 H2 (g1.trans g2) r2 q2.2⟩
  · rw [e] at q2
    obtain ⟨go, step⟩ := (good S i M2 H2 (g2.imm S) r2.m q2.1).1 d ed
    refine .inr ⟨go, fun σ' H' => ∃ δ' M', Rep S δ' M' σ' H' ∧ Grow M1 H1 M' H' ∧ goFor g tb Ed stay (items.drop (i + 1)) δ' M', fun σ' H' ⟨δ', M', r', g', q'⟩ => ⟨items.length - (i + 1), by omega, δ', M', r', g', q', hl, rfl⟩, fun x H3 y => ?_⟩
    obtain ⟨g3, m3, dv⟩ := step x H3 y
    refine ⟨S, d, δ2, M2, _, r2.grow g3 m3, dv, q2.2, fun δ4 M4 σ4 H4 g4 r4 _ q4 => ⟨S, δ4, M4, _, r4, q4, ?_⟩⟩
    have gg := (g2.trans g3).trans g4
    exact ⟨fun δ' M' σ' H' g' r' q' => ⟨δ', M', r', gg.trans g', q'⟩, k.rt.grow (g1.trans gg), fun δ' M' σ' H' g' r' q' => k.nx δ' M' σ' H' ((g1.trans gg).trans g') r' q', fun δ' M' σ' H' g' r' q' => ⟨δ', M', r', gg.trans g', q'⟩, fun x d δ' M' σ' H' g' => k.xn x d δ' M' σ' H' ((g1.trans gg).trans g')⟩
end

/-! ### comprehensions -/
abbrev DTs := DT
def liftTs (t : DT) : TT := liftT t
def goLc (g : DG) (tt : DT) (te : DE) (stay : Mp → Prop) (δw : Sd) : List D → Mp → (List D → Mp → Prop) → Prop
  | [], M, Q => stay M ∧ Q [] M
  | d :: r, M, Q => stay M ∧ g d δw M fun δ2 M2 => tt δ2 M2 fun b M3 => if b = true then te δ2 M3 fun y M4 => goLc g tt te stay δw r M4 fun acc M5 => Q (y :: acc) M5 else goLc g tt te stay δw r M3 Q
def finL (acc : List D) (M : Mp) (Q : DK) : Prop := match datsOf acc with
  | some ps => Q (.dat (.list ps)) M
  | none => False
def finM (acc : List D) (M : Mp) (Q : DK) : Prop := ∀ p, M p = none → Q (.ref p) (updM M p (.lst acc))
def dLc (di : DI) (g : DG) (tt : DT) (te : DE) (vs : List Nat) (fin : List D → Mp → DK → Prop) : DE := fun δ M Q => di δ M fun items stay M1 => items.length ≤ 16777216 ∧ goLc g tt te stay (dwipe δ vs) items M1 fun acc M2 => fin acc M2 Q
def dYes : DT := fun _ M Q => Q true M
theorem wipe_wipe (σ : L2.St) (vs : List Nat) : wipe (wipe σ vs) vs = wipe σ vs := by
  have : ∀ ws : List Nat, (∀ i ∈ ws, i ∈ vs) → ∀ τ, wipe τ vs = wipe σ vs → wipe (wipe τ ws) vs = wipe σ vs := by
    intro ws
    induction ws with
    | nil => intro _ τ h; exact h
    | cons w ws ih =>
      intro hw τ h
      show wipe ((wipe τ ws).set w none) vs = _
      rw [wipe_set _ w none vs (hw w List.mem_cons_self)]
      exact ih (fun i hi => hw i (List.mem_cons_of_mem _ hi)) τ h
  exact this vs (fun _ h => h) σ rfl
/-- the end of a comprehension -/
def FinOk (fin : List D → Mp → DK → Prop) : Prop := ∀ (S : Hid) (p : Addr) (M1 M : Mp) (H1 H : Hp) (xs : List V) (acc : List D) (Qd : DK) (Q : VK), H1 p = none → S p = false → Grow M1 H1 M H → RepM S M1 H1 → RepM (fun b => S b || decide (b = p)) M H → H p = some (.lst xs) → DVs (Imm M (fun b => S b || decide (b = p)) H) xs acc →
  fin acc M Qd → Fin S M1 H1 Qd Q → Q (.ref p) H
theorem imm_hid {S : Hid} {p : Addr} {M : Mp} {H : Hp} : Same (Imm M (fun b => S b || decide (b = p)) H) (Imm M S H) := fun b o h => by
  obtain ⟨h1, h2, h3⟩ := imm_some.mp h
  exact imm_some.mpr ⟨h1, (Bool.or_eq_false_iff.mp h2).1, h3⟩
theorem RepM.unhide {S : Hid} {p : Addr} {M : Mp} {H : Hp} (m : RepM (fun b => S b || decide (b = p)) M H) : RepM S M H :=
  ⟨fun a o h => (m.obj a o h).mono imm_hid fun _ q => q, fun a h => m.hid a (by simp [h])⟩
theorem finL_ok : FinOk finL := by
  intro S p M1 M H1 H xs acc Qd Q hp hS g m1 m hH hd h k
  unfold finL at h
  split at h
  · rename_i ps e
    have mp := m.hid p (by simp)
    exact k _ _ _ _ g m.unhide (dv_lst_mk (imm_some.mpr ⟨mp.1, hS, hH⟩) (DqAll_mono imm_hid _ _ (hd.dats e))) h
  · exact h.elim
theorem finM_ok : FinOk finM := by
  intro S p M1 M H1 H xs acc Qd Q hp hS g m1 m hH hd h k
  have mp := m.hid p (by simp)
  have im : Imm (updM M p (.lst acc)) S H = Imm M (fun b => S b || decide (b = p)) H := by
    funext b
    unfold Imm
    by_cases e : b = p
    · subst e
      rw [updM_same]; simp
    · rw [updM_ne e]; simp [e]
  have g2 : Grow M1 H1 (updM M p (.lst acc)) H := fun b o h1 h2 => by
    have ne : b ≠ p := ne_of_none h2 hp
    rw [updM_ne ne]
    exact g b o h1 h2
  refine k _ _ _ _ g2 ⟨fun b o e => ?_, fun b e => ?_⟩ dvR (h p mp.1)
  · by_cases z : b = p
    · subst z
      rw [updM_same] at e; cases e
      exact ⟨xs, hH, by rw [im]; exact hd⟩
    · rw [updM_ne z] at e
      rw [im]
      exact m.obj b o e
  · have z : b ≠ p := fun z => by subst z; rw [hS] at e; cases e
    rw [updM_ne z]
    exact m.hid b (by simp [e])
section
variable {X : Cx} {pos : Pos}
theorem lc_lift {K : PySem.W.Frag} {di : DI} {g : DG} {tt : DT} {te : DE} {vs : List Nat} {fin : List D → Mp → DK → Prop} (fo : FinOk fin) {σ : L2.St} {H : Hp} {Q : VK} (h : liftE (dLc di g tt te vs fin) σ H Q) :
    tLc (liftI di) (liftG vs g) (liftT tt) (liftE te) vs σ H Q := by
  obtain ⟨S, δ, M, Qd, r, h, k⟩ := h
  refine ⟨S, δ, M, _, r, h, fun items stay M1 H1 J g1 m1 good q1 p hp => ?_⟩
  obtain ⟨hlen, q1⟩ := q1
  have hSp := m1.hidF hp
  refine ⟨fun i m H2 => ∃ M2 xs acc, RepM (fun b => S b || decide (b = p)) M2 H2 ∧ Grow M1 H1 M2 H2 ∧ H2 p = some (.lst xs) ∧ DVs (Imm M2 (fun b => S b || decide (b = p)) H2) xs acc ∧ acc.length ≤ i ∧
    goLc g tt te stay (dwipe δ vs) (items.drop i) M2 (fun a M3 => fin (acc ++ a) M3 Qd) ∧ i ≤ items.length ∧ m = items.length - i, ⟨_, M1, [], [], ?_, ?_, upd_same, .nil, Nat.le_refl _, q1, Nat.zero_le _, rfl⟩, ?_⟩
  · refine ⟨fun a o e => ?_, fun a e => ?_⟩
    · refine (m1.obj a o e).mono (fun b u q => ?_) fun u q => ?_
      · obtain ⟨h1, h2, h3⟩ := imm_some.mp q
        have ne : b ≠ p := ne_of_none h3 hp
        exact imm_some.mpr ⟨h1, by simp [h2, ne], by rw [upd_ne ne]; exact h3⟩
      · rw [upd_ne (ne_of_none q hp)]; exact q
    · by_cases z : a = p
      · subst z
        exact ⟨m1.free hp, by rw [upd_same]; exact trivial⟩
      · have e' : S a = true := by simpa [z] using e
        obtain ⟨h1, h2⟩ := m1.hid a e'
        exact ⟨h1, by rw [upd_ne z]; exact h2⟩
  · exact Grow.same (same_upd hp)
  rintro i m H2 ⟨M2, xs, acc, m2, g2, hpx, hd, hla, q2, hle, rfl⟩
  have base : Same (Imm M1 S H1) (Imm M2 (fun b => S b || decide (b = p)) H2) := fun b o q => by
    obtain ⟨h1, h2, h3⟩ := imm_some.mp q
    obtain ⟨e1, e2⟩ := g2 b o h1 h3
    exact imm_some.mpr ⟨e1, by simp [h2, ne_of_none h3 hp], e2⟩
  rcases drop_cases items i with ⟨e, hl⟩ | ⟨d, ed, e, hl⟩
  · rw [e] at q2
    refine .inl ⟨(good _ i M2 H2 base m2 q2.1).2 (Nat.le_antisymm hl hle), ?_⟩
    have qq : fin (acc ++ []) M2 Qd := q2.2
    rw [List.append_nil] at qq
    exact fo S p M1 M2 H1 H2 xs acc Qd Q hp hSp g2 m1 m2 hpx hd qq (k.grow g1)
  · rw [e] at q2
    obtain ⟨go, step⟩ := (good _ i M2 H2 base m2 q2.1).1 d ed
    refine .inr ⟨go, fun H' => ∃ M' xs acc, RepM (fun b => S b || decide (b = p)) M' H' ∧ Grow M1 H1 M' H' ∧ H' p = some (.lst xs) ∧ DVs (Imm M' (fun b => S b || decide (b = p)) H') xs acc ∧ acc.length ≤ i + 1 ∧
      goLc g tt te stay (dwipe δ vs) (items.drop (i + 1)) M' (fun a M3 => fin (acc ++ a) M3 Qd), fun H' ⟨M', xs, acc, a1, a2, a3, a4, a5, a6⟩ => ⟨items.length - (i + 1), by omega, M', xs, acc, a1, a2, a3, a4, a5, a6, hl, rfl⟩, fun x H3 y => ?_⟩
    obtain ⟨g3, m3, dv⟩ := step x H3 y
    have r3 : Rep (fun b => S b || decide (b = p)) (dwipe δ vs) M2 (wipe σ vs) H3 := by
      refine ⟨m3, (r.s.mono (g1.imm S)).wipe vs |>.mono fun b o q => ?_⟩
      exact g3.imm _ b o (base b o q)
    refine ⟨_, d, dwipe δ vs, M2, _, r3, dv, q2.2, fun δ4 M4 σ4 H4 g4 r4 ew q4 => ⟨by rw [ew, wipe_wipe], _, δ4, M4, _, r4, q4, fun b M5 H5 g5 m5 q5 => ?_⟩⟩
    have mp2 := m2.hid p (by simp)
    cases b with
    | true =>
      refine ⟨_, δ4, M5, _, r4.grow g5 m5, q5, fun yd M6 yv H6 g6 m6 r6 q6 => ?_⟩
      have gg := ((g3.trans g4).trans g5).trans g6
      obtain ⟨mp6, hp6⟩ := gg p _ mp2.1 hpx
      have hl6 := (DVs_len hd)
      refine ⟨xs, hp6, by rw [sizeLine_eq, hl6]; omega, M6, xs ++ [yv], acc ++ [yd], ?_, ?_, upd_same, ?_, by rw [List.length_append, List.length_singleton]; omega, ?_⟩
      · refine ⟨fun a o e => ?_, fun a e => ?_⟩
        · refine (m6.obj a o e).mono (fun b u q => ?_) fun u q => ?_
          · obtain ⟨h1, h2, h3⟩ := imm_some.mp q
            have ne : b ≠ p := fun z => by subst z; simp at h2
            exact imm_some.mpr ⟨h1, h2, by rw [upd_ne ne]; exact h3⟩
          · have ne : a ≠ p := fun z => by subst z; rw [mp6] at e; cases e
            rw [upd_ne ne]; exact q
        · obtain ⟨h1, h2⟩ := m6.hid a e
          refine ⟨h1, ?_⟩
          by_cases z : a = p
          · subst z; rw [upd_same]; exact trivial
          · rw [upd_ne z]; exact h2
      · intro b o h1 h2
        obtain ⟨e1, e2⟩ := (g2.trans gg) b o h1 h2
        exact ⟨e1, by rw [upd_ne (ne_of_none h2 hp)]; exact e2⟩
      · have im : Same (Imm M6 (fun b => S b || decide (b = p)) H6) (Imm M6 (fun b => S b || decide (b = p)) (upd H6 p (.lst (xs ++ [yv])))) := fun b u q => by
          obtain ⟨h1, h2, h3⟩ := imm_some.mp q
          have ne : b ≠ p := fun z => by subst z; simp at h2
          exact imm_some.mpr ⟨h1, h2, by rw [upd_ne ne]; exact h3⟩
        exact DVs_append (DVs.mono im (DVs.mono (gg.imm _) hd)) (.cons (r6.mono im) .nil)
      · simpa [List.append_assoc] using q6
    | false =>
      have gg := (g3.trans g4).trans g5
      obtain ⟨mp5, hp5⟩ := gg p _ mp2.1 hpx
      exact ⟨M5, xs, acc, m5, g2.trans gg, hp5, DVs.mono (gg.imm _) hd, by omega, q5⟩
end
end DL
set_option Elab.async false
set_option linter.all false
set_option maxRecDepth 100000
/-! DL5: what is walked, calls of what is built in, methods, defs. -/
namespace DL
open PySem PySem.Spec PyProof.Rows L2

/-! ### what is walked -/
section
variable {X : Cx} {tg : Expr}
theorem pi_any {l : Expr} {tl : TE} (hl : PE X l tl) : PI X tg l (fun σ H R => tl σ H fun x H1 => ∃ a, x = .ref a ∧ (((∃ xs, SqL X.K H1 a xs) ∧ R (Itl X.K a) H1) ∨ ((∃ xs, SqT X.K H1 a xs) ∧ R (Itt X.K a) H1))) := by
  refine ⟨fun pins s σ H R I h => ?_⟩
  refine thn (hl.run pins s σ H _ I h) fun v s1 ⟨x, H1, I1, r1, a, e, q1⟩ => ?_
  subst e
  cases r1
  rcases q1 with ⟨⟨xs, hq⟩, q⟩ | ⟨⟨xs, hq⟩, q⟩
  · obtain ⟨its, rv, p, hz⟩ := I1.list hq
    refine wpAny_pyIter_list p.isList ?_
    refine ⟨s1.heap.objs.size, [s1.heap.objs.size], _, _, H1, rfl, I1.kept (t' := s1.toks) fun b o e => Heap.get?_push_of_some _ e, turn_list a _, ⟨_, Heap.get?_push_size _ rfl, rfl, rfl⟩, fun b hb => ?_, q⟩
    have e : b = s1.heap.objs.size := by simpa using hb
    subst e
    exact I1.fpOk (Nat.le_refl _) (I1.hok.fresh (Nat.le_refl _))
  · obtain ⟨its, rv, p, hz⟩ := I1.tuple hq
    refine wpAny_pyIter_tuple (show s1.heap.IsTuple a its.toArray from p) ?_
    refine ⟨s1.heap.objs.size, [s1.heap.objs.size], _, _, H1, rfl, I1.kept (t' := s1.toks) fun b o e => Heap.get?_push_of_some _ e, turn_tuple a _, ⟨_, Heap.get?_push_size _ rfl, rfl, rfl⟩, fun b hb => ?_, q⟩
    have e : b = s1.heap.objs.size := by simpa using hb
    subst e
    exact I1.fpOk (Nat.le_refl _) (I1.hok.fresh (Nat.le_refl _))
end
def isTupD : D → Bool
  | .dat (.tuple _) => true
  | _ => false
theorem seq_kind {K : PySem.W.Frag} {S : Hid} {M : Mp} {H : Hp} {a : Addr} {d : D} {ds : List D} (m : RepM S M H) (r : DV (Imm M S H) (.ref a) d) (h : seqOf M d = some ds) :
    ∃ xs, (if isTupD d = true then SqT K H a xs else SqL K H a xs) ∧ DVs (Imm M S H) xs ds := by
  unfold seqOf at h
  split at h
  · cases h
    obtain ⟨b, xs, e, h1, h2⟩ := dv_lst r
    cases e
    exact ⟨xs, .of (imm_sub _ _ h1), h2.dvs⟩
  · cases h
    obtain ⟨b, xs, e, h1, h2⟩ := dv_tup r
    cases e
    exact ⟨xs, .of (imm_sub _ _ h1), h2.dvs⟩
  · rename_i b
    have e : V.ref a = .ref b := r
    cases e
    split at h
    · rename_i ds' q
      cases h
      obtain ⟨vs, h1, h2⟩ := m.obj a _ q
      exact ⟨vs, .of h1, h2⟩
    · rename_i ds' q
      cases h
      obtain ⟨o, vs, h1, h2⟩ := m.obj a _ q
      exact ⟨vs, .inl (.inr ⟨o, h1⟩), h2⟩
    · cases h
  · cases h
/-- a sequence is walked -/
def iSeq (te : DE) : DI := fun δ M Q => te δ M fun d M1 => ∃ ds, seqOf M1 d = some ds ∧ Q ds (fun M' => seqOf M' d = some ds) M1
/-- 0, 1, .. below n -/
def upTo (n : Int) : List D := (List.range n.toNat).map fun (i : Nat) => D.dat (.int (i : Int))
def iRange (te : DE) : DI := fun δ M Q => te δ M fun d M1 => match d with
  | .dat (.int n) => (0 ≤ n ∧ n ≤ 16777216) ∧ Q (upTo n) (fun _ => True) M1
  | _ => False
def iRevRange (te : DE) : DI := fun δ M Q => te δ M fun d M1 => match d with
  | .dat (.int n) => (0 ≤ n ∧ n ≤ 16777216) ∧ Q (upTo n).reverse (fun _ => True) M1
  | _ => False
def signs (x : Str) : List D := x.cps.toList.map fun c => .dat (.str ⟨#[c]⟩)
def iStrD (te : DE) : DI := fun δ M Q => te δ M fun d M1 => match d with
  | .dat (.str x) => Q (signs x) (fun _ => True) M1
  | _ => False
section
variable {X : Cx} {tg : Expr}
theorem qi_seq {e : Expr} {te : DE} (he : QE X e te) : QI X tg e (iSeq te) := PI_imp (pi_any he) fun σ H R ⟨S, δ, M, Qi, r, h, k⟩ => by
  refine ⟨S, δ, M, _, r, h, fun d M1 v H1 g1 m1 r1 ⟨ds, e, q1⟩ => ?_⟩
  obtain ⟨a, xs, rfl, _, _⟩ := seq_at (K := X.K) m1 r1 e
  refine ⟨a, rfl, ?_⟩
  obtain ⟨xs, hq, hd⟩ := seq_kind (K := X.K) m1 r1 e
  by_cases ht : isTupD d = true
  · rw [if_pos ht] at hq
    refine .inr ⟨⟨xs, hq⟩, k ds _ M1 H1 _ g1 m1 (fun S' i M2 H2 base m2 stay => ?_) q1⟩
    obtain ⟨ys, hy, hd2⟩ := seq_kind (K := X.K) m2 (r1.mono base) stay
    rw [if_pos ht] at hy
    refine ⟨fun d' ed => ?_, fun hl => ⟨ys, hy, by rw [DVs_len hd2]; exact Nat.le_of_eq hl⟩⟩
    obtain ⟨y, ey, ry⟩ := DVs_get hd2 ed
    refine ⟨⟨ys, y, hy, ey⟩, fun x H' ⟨e1, e2⟩ => ?_⟩
    subst e1
    have := e2 ys hy
    rw [ey] at this; cases this
    exact ⟨.refl, m2, ry⟩
  · rw [if_neg ht] at hq
    refine .inl ⟨⟨xs, hq⟩, k ds _ M1 H1 _ g1 m1 (fun S' i M2 H2 base m2 stay => ?_) q1⟩
    obtain ⟨ys, hy, hd2⟩ := seq_kind (K := X.K) m2 (r1.mono base) stay
    rw [if_neg ht] at hy
    refine ⟨fun d' ed => ?_, fun hl => ⟨ys, hy, by rw [DVs_len hd2]; exact Nat.le_of_eq hl⟩⟩
    obtain ⟨y, ey, ry⟩ := DVs_get hd2 ed
    refine ⟨⟨ys, y, hy, ey⟩, fun x H' ⟨e1, e2⟩ => ?_⟩
    subst e1
    have := e2 ys hy
    rw [ey] at this; cases this
    exact ⟨.refl, m2, ry⟩
theorem upTo_get {n : Int} {i : Nat} {d : D} (h : (upTo n)[i]? = some d) : i < n.toNat ∧ d = .dat (.int i) := by
  unfold upTo at h
  rw [List.getElem?_map] at h
  cases q : (List.range n.toNat)[i]? with
  | none => rw [q] at h; cases h
  | some j =>
    rw [q] at h; cases h
    have hi : i < n.toNat := by
      rcases Nat.lt_or_ge i n.toNat with z | z
      · exact z
      · rw [List.getElem?_eq_none (by rw [List.length_range]; exact z)] at q; cases q
    rw [List.getElem?_range hi] at q; cases q
    exact ⟨hi, rfl⟩
theorem upTo_len (n : Int) : (upTo n).length = n.toNat := by unfold upTo; rw [List.length_map, List.length_range]
theorem qi_range {a : Expr} {te : DE} {p pos : Pos} (hg : Gl X "range") (hm : X.mg "range" = none) (ha : QE X a te) (hs : starEach [a] X.env = [(false, eval a X.env)] := by rfl) (hs2 : starEach [a] X.env = (false, eval a X.env) :: starEach [] X.env := by rfl) : QI X tg (.Call (.Name "range" p) [a] [] pos) (iRange te) :=
  PI_imp (pi_range1 hg hm (pa_cons ha pa_nil hs2) hs) fun σ H R ⟨S, δ, M, Qi, r, h, k⟩ => ⟨S, δ, M, _, r, h, fun d M1 v H1 g1 m1 r1 q1 => by
    revert q1
    dsimp only
    split
    · rename_i n
      intro ⟨⟨b1, b2⟩, q1⟩
      cases dv_int r1
      refine ⟨n, rfl, by omega, by omega, k _ _ M1 H1 _ g1 m1 (fun S' i M2 H2 base m2 stay => ⟨fun d' ed => ?_, fun hl => ?_⟩) q1⟩
      · obtain ⟨hi, rfl⟩ := upTo_get ed
        refine ⟨hi, fun x H' ⟨e1, e2⟩ => ?_⟩
        subst e1 e2
        refine ⟨.refl, m2, ?_⟩
        rw [Int.zero_add]
        exact dvI
      · rw [upTo_len] at hl; exact Nat.le_of_eq hl
    · exact False.elim⟩
theorem qi_revRange {a : Expr} {te : DE} {p pos p2 pos2 : Pos} (hg : Gl X "reversed") (hm : X.mg "reversed" = none) (hg2 : Gl X "range") (hm2 : X.mg "range" = none) (ha : QE X a te)
    (na : starEach [a] X.env = (false, eval a X.env) :: starEach [] X.env := by rfl)
    (hs : starEach [(Expr.Call (.Name "range" p2) [a] [] pos2)] X.env = (false, eval (Expr.Call (.Name "range" p2) [a] [] pos2) X.env) :: starEach [] X.env := by rfl) :
    QI X tg (.Call (.Name "reversed" p) [.Call (.Name "range" p2) [a] [] pos2] [] pos) (iRevRange te) :=
  PI_imp (pi_revR hg hm (prg_1 hg2 hm2 ha na) hs) fun σ H R ⟨S, δ, M, Qi, r, h, k⟩ => ⟨S, δ, M, _, r, h, fun d M1 v H1 g1 m1 r1 q1 => by
    revert q1
    dsimp only
    split
    · rename_i n
      intro ⟨⟨b1, b2⟩, q1⟩
      cases dv_int r1
      refine ⟨n, rfl, by omega, by omega, by omega, by omega, k _ _ M1 H1 _ g1 m1 (fun S' i M2 H2 base m2 stay => ⟨fun d' ed => ?_, fun hl => ?_⟩) q1⟩
      · have hi : i < n.toNat := by
          rcases Nat.lt_or_ge i n.toNat with z | z
          · exact z
          · rw [List.getElem?_eq_none (by rw [List.length_reverse, upTo_len]; exact z)] at ed; cases ed
        rw [List.getElem?_reverse (by rw [upTo_len]; exact hi), upTo_len] at ed
        obtain ⟨hi2, rfl⟩ := upTo_get ed
        refine ⟨by show i < (n - 0).toNat; rw [Int.sub_zero]; exact hi, fun x H' ⟨e1, e2⟩ => ?_⟩
        subst e1 e2
        refine ⟨.refl, m2, ?_⟩
        rw [show (0 : Int) + (((n - 0).toNat : Nat) : Int) - 1 + (i : Int) * -1 = ((n.toNat - 1 - i : Nat) : Int) by rw [Int.sub_zero]; omega]
        exact dvI
      · rw [List.length_reverse, upTo_len] at hl
        show (n - 0).toNat ≤ i
        rw [Int.sub_zero]; exact Nat.le_of_eq hl
    · exact False.elim⟩
theorem qi_str {e : Expr} {te : DE} (he : QE X e te) : QI X tg e (iStrD te) := PI_imp (pi_str he) fun σ H R ⟨S, δ, M, Qi, r, h, k⟩ => ⟨S, δ, M, _, r, h, fun d M1 v H1 g1 m1 r1 q1 => by
    revert q1
    dsimp only
    split
    · rename_i x
      intro q1
      cases dv_str r1
      have hlen : (signs x).length = x.cps.size := by unfold signs; rw [List.length_map, Array.length_toList]
      refine ⟨x, rfl, k _ _ M1 H1 _ g1 m1 (fun S' i M2 H2 base m2 stay => ⟨fun d' ed => ?_, fun hl => by rw [hlen] at hl; exact Nat.le_of_eq hl⟩) q1⟩
      unfold signs at ed
      rw [List.getElem?_map] at ed
      cases q : x.cps.toList[i]? with
      | none => rw [q] at ed; cases ed
      | some c =>
        rw [q] at ed; cases ed
        have q' : x.cps[i]? = some c := by rw [← Array.getElem?_toList]; exact q
        refine ⟨?_, fun v H' ⟨e1, c', e2, e3⟩ => ?_⟩
        · show i < x.cps.size
          rcases Nat.lt_or_ge i x.cps.size with z | z
          · exact z
          · rw [Array.getElem?_eq_none z] at q'; cases q'
        · subst e1 e3
          rw [q'] at e2; cases e2
          exact ⟨.refl, m2, dvS⟩
    · exact False.elim⟩
end

/-! ### comprehensions as expressions -/
section
variable {X : Cx} {pos : Pos}
theorem q_lc {elt tg iter : Expr} {ifs : List Expr} {scope : Scope} {own : List (Str × Nat)} {di : DI} {g : DG} {tt : DT} {te : DE} {fin : List D → Mp → DK → Prop} (fo : FinOk fin) (hc : X.calm = true) (hN : X.N.Nodup) (hi : QI X tg iter di) (ok : BlkOk X.N X.env.scope scope own)
    (hg : ∀ (s : Shared) (H : Hp) (C : Addr) (cl : List (Str × Addr)) (fp : List Addr), QG (X.blk s H scope (compEnvC scope cl C X.env) fp) tg (own.map (·.2)) g) (ht : ∀ (s : Shared) (H : Hp) (C : Addr) (cl : List (Str × Addr)) (fp : List Addr), PTs (X.blk s H scope (compEnvC scope cl C X.env) fp) ifs (liftT tt))
    (he : ∀ (s : Shared) (H : Hp) (C : Addr) (cl : List (Str × Addr)) (fp : List Addr), QE (X.blk s H scope (compEnvC scope cl C X.env) fp) elt te) (hs : ∀ x, foldedSetIterable iter X.env x = pure x := by intro _; rfl) :
    QE X (.ListComp elt [⟨tg, iter, ifs, 0⟩] scope pos) (dLc di g tt te (own.map (·.2)) fin) := PE_imp (pe_lc hc hN hi ok hg ht he hs) fun σ H Q => lc_lift (K := X.K) fo
theorem qts_nil : PTs X [] (liftT dYes) := ⟨fun pins s σ H Q I ⟨S, δ, M, Qd, r, h, k⟩ => pts_nil.run pins s σ H Q I (k true M H .refl r.m h)⟩
theorem qts_one {c : Expr} {t : DT} (h : QT X c t) : PTs X [c] (liftT t) := pts_one h
theorem qs_setLc {i : Nat} {y : Str} {py : Pos} {elt tg iter : Expr} {ifs : List Expr} {scope : Scope} {own : List (Str × Nat)} {spos : Pos} {di : DI} {g : DG} {tt : DT} {te : DE} {fin : List D → Mp → DK → Prop} (fo : FinOk fin) (hc : X.calm = true) (hN : X.N.Nodup) (hy : X.N[i]? = some y) (hyl : X.env.scope.names.lookup y = some .local)
    (hsw : swapsWith (.ListComp elt [⟨tg, iter, ifs, 0⟩] scope pos) (some (.Name y py)) spos.line X.env = pure true) (hi : QI X tg iter di) (ok : BlkOk X.N X.env.scope scope own)
    (hg : ∀ (s : Shared) (H : Hp) (C : Addr) (cl : List (Str × Addr)) (fp : List Addr), QG (X.blk s H scope (compEnvC scope cl C X.env) fp) tg (own.map (·.2)) g) (ht : ∀ (s : Shared) (H : Hp) (C : Addr) (cl : List (Str × Addr)) (fp : List Addr), PTs (X.blk s H scope (compEnvC scope cl C X.env) fp) ifs (liftT tt))
    (he : ∀ (s : Shared) (H : Hp) (C : Addr) (cl : List (Str × Addr)) (fp : List Addr), QE (X.blk s H scope (compEnvC scope cl C X.env) fp) elt te) (hs : ∀ x, foldedSetIterable iter X.env x = pure x := by intro _; rfl) :
    QS X (.Assign [.Name y py] (.ListComp elt [⟨tg, iter, ifs, 0⟩] scope pos) spos) (dAsg (dLc di g tt te (own.map (·.2)) fin) (dName i)) := PS_imp (ps_setLc hc hN hy hyl hsw hi ok hg ht he hs) fun E σ H ⟨S, δ, M, Ed, r, h, k⟩ =>
  lc_lift (K := X.K) fo ⟨S, δ, M, _, r, h, fun d M1 v H1 g1 m1 r1 q1 => k.nx _ M1 _ H1 g1 ((r.grow g1 m1).set i r1) q1⟩
end

/-! ### calls of what is built in -/
abbrev FC := List D → Mp → DK → Prop
def liftC (f : FC) : List V → Hp → VK → Prop := fun vs H Q => ∃ S M ds Qd, RepM S M H ∧ DVs (Imm M S H) vs ds ∧ f ds M Qd ∧ Fin S M H Qd Q
def dCB (f : FC) (ta : DA) : DE := fun δ M Q => ta δ M fun ds M1 => f ds M1 Q
theorem tCB_lift {f : FC} {ta : DA} {σ : L2.St} {H : Hp} {Q : VK} (h : liftE (dCB f ta) σ H Q) : tCB (liftC f) (liftA ta) σ H Q := by
  obtain ⟨S, δ, M, Qd, r, h, k⟩ := h
  exact ⟨S, δ, M, _, r, h, fun ds M1 vs H1 g1 m1 r1 q1 => ⟨S, M1, ds, Qd, m1, r1, q1, k.grow g1⟩⟩
section
variable {X : Cx} {x : Str} {p pos : Pos} {e : Expr} {es : List Expr} {ta : DA} {id T : String} {f : FC}
theorem q_callB (hc : CallR X (.builtin id) (liftC f)) (hg : Gl X x) (hm : X.mg x = none) (hv : bootBuiltins x = some (.builtin id)) (ha : QA X (e :: es) ta) (hn : x ≠ "__name__" := by decide) (hdb : (x == ("__debug__" : Str)) = false := by decide)
    (he : starEach (e :: es) X.env = (false, eval e X.env) :: starEach es X.env := by rfl) (hpl : (backTo pos (starEach es X.env)).any (·.1) = false := by rfl) : QE X (.Call (.Name x p) (e :: es) [] pos) (dCB f ta) :=
  PE_imp (pe_callB hc hg hm hv ha hn hdb he hpl) fun _ _ _ => tCB_lift
theorem q_callTy (hc : CallR X (.type T) (liftC f)) (hg : Gl X x) (hm : X.mg x = none) (hv : bootBuiltins x = some (.type T)) (ha : QA X (e :: es) ta) (hn : x ≠ "__name__" := by decide) (hdb : (x == ("__debug__" : Str)) = false := by decide)
    (he : starEach (e :: es) X.env = (false, eval e X.env) :: starEach es X.env := by rfl) (hpl : (backTo pos (starEach es X.env)).any (·.1) = false := by rfl) : QE X (.Call (.Name x p) (e :: es) [] pos) (dCB f ta) :=
  PE_imp (pe_callTy hc hg hm hv ha hn hdb he hpl) fun _ _ _ => tCB_lift
end
def lenC : FC
  | [.dat (.str x)], M, Q => x.length ≤ 16777216 ∧ Q (.dat (.int x.length)) M
  | [d], M, Q => ∃ ds, seqOf M d = some ds ∧ Q (.dat (.int ds.length)) M
  | _, _, _ => False
def intC : FC
  | [.dat (.int i)], M, Q => Q (.dat (.int i)) M
  | [.dat (.bool b)], M, Q => Q (.dat (.int (if b then 1 else 0))) M
  | _, _, _ => False
def sumC : FC
  | [.dat (.list ps)], M, Q => ∃ ns : List Int, ps = ns.map .int ∧ Q (.dat (.int ns.sum)) M
  | _, _, _ => False
def allC : FC
  | [.dat (.list ps)], M, Q => ∃ bs : List Bool, ps = bs.map .bool ∧ Q (.dat (.bool (bs.all id))) M
  | _, _, _ => False
def anyC : FC
  | [.dat (.list ps)], M, Q => ∃ bs : List Bool, ps = bs.map .bool ∧ Q (.dat (.bool (bs.any id))) M
  | _, _, _ => False
def tupleC : FC
  | [d], M, Q => ∃ ds ps, seqOf M d = some ds ∧ datsOf ds = some ps ∧ Q (.dat (.tuple ps)) M
  | _, _, _ => False
def listC : FC
  | [d], M, Q => ∃ ds ps, seqOf M d = some ds ∧ datsOf ds = some ps ∧ Q (.dat (.list ps)) M
  | _, _, _ => False
/-- list(x), the new list to be changed -/
def listM : FC
  | [d], M, Q => ∃ ds, seqOf M d = some ds ∧ ∀ p, M p = none → Q (.ref p) (updM M p (.lst ds))
  | _, _, _ => False
section
variable {X : Cx}
theorem dvs1 {HI : Hp} {vs : List V} {d : D} (h : DVs HI vs [d]) : ∃ v, vs = [v] ∧ DV HI v d := by
  cases h with
  | cons h1 h2 => cases h2; exact ⟨_, rfl, h1⟩
theorem dvs2 {HI : Hp} {vs : List V} {d d2 : D} (h : DVs HI vs [d, d2]) : ∃ v w, vs = [v, w] ∧ DV HI v d ∧ DV HI w d2 := by
  cases h with
  | cons h1 h2 =>
    obtain ⟨w, rfl, h3⟩ := dvs1 h2
    exact ⟨_, _, rfl, h1, h3⟩
theorem dvs0 {HI : Hp} {vs : List V} (h : DVs HI vs []) : vs = [] := by cases h; rfl
theorem c_len : CallR X (.builtin "len") (liftC lenC) := by
  rintro pins s σ H vs us Q I r ⟨S, M, ds, Qd, m, rd, h, k⟩
  unfold lenC at h
  split at h
  · obtain ⟨v, rfl, rv⟩ := dvs1 rd
    cases dv_str rv
    exact call_len_str pins s σ H _ us Q I r ⟨_, rfl, by rw [sizeLine_eq]; exact h.1, k.here m dvI h.2⟩
  · rename_i d _
    obtain ⟨v, rfl, rv⟩ := dvs1 rd
    obtain ⟨ds, e, q⟩ := h
    obtain ⟨a, xs, rfl, hq, hd⟩ := seq_at (K := X.K) m rv e
    refine call_len_seq pins s σ H _ us Q I r ⟨a, xs, rfl, hq, k.here m dvI ?_⟩
    rw [DVs_len hd]; exact q
  · exact h.elim
theorem c_int : CallR X (.type "int") (liftC intC) := by
  rintro pins s σ H vs us Q I r ⟨S, M, ds, Qd, m, rd, h, k⟩
  unfold intC at h
  split at h
  · obtain ⟨v, rfl, rv⟩ := dvs1 rd
    cases dv_int rv
    exact call_int1 pins s σ H _ us Q I r (.inl ⟨_, rfl, k.here m dvI h⟩)
  · obtain ⟨v, rfl, rv⟩ := dvs1 rd
    cases dv_bl rv
    exact call_int1 pins s σ H _ us Q I r (.inr ⟨_, rfl, k.here m dvI h⟩)
  · exact h.elim
theorem dq_bools {HI : Hp} : ∀ {vs : List V} {ns : List Bool}, DqAll HI vs (ns.map .bool) → vs = ns.map V.bl
  | _, [], h => by cases h; rfl
  | _, n :: ns, h => by
    cases h with
    | cons h1 h2 =>
      cases h1
      rw [dq_bools h2]; rfl
theorem c_sum (hc : X.calm = true) : CallR X (.builtin "sum") (liftC sumC) := by
  rintro pins s σ H vs us Q I r ⟨S, M, ds, Qd, m, rd, h, k⟩
  unfold sumC at h
  split at h
  · obtain ⟨v, rfl, rv⟩ := dvs1 rd
    obtain ⟨ns, rfl, q⟩ := h
    obtain ⟨a, xs, rfl, ha, da⟩ := dv_lst rv
    cases dq_ints da
    exact cr_sum hc pins s σ H _ us Q I r ⟨a, ns, rfl, .of (imm_sub _ _ ha), k.here m dvI q⟩
  · exact h.elim
theorem c_all (hc : X.calm = true) : CallR X (.builtin "all") (liftC allC) := by
  rintro pins s σ H vs us Q I r ⟨S, M, ds, Qd, m, rd, h, k⟩
  unfold allC at h
  split at h
  · obtain ⟨v, rfl, rv⟩ := dvs1 rd
    obtain ⟨ns, rfl, q⟩ := h
    obtain ⟨a, xs, rfl, ha, da⟩ := dv_lst rv
    cases dq_bools da
    exact cr_all hc pins s σ H _ us Q I r ⟨a, ns, rfl, .of (imm_sub _ _ ha), k.here m dvB q⟩
  · exact h.elim
theorem c_any (hc : X.calm = true) : CallR X (.builtin "any") (liftC anyC) := by
  rintro pins s σ H vs us Q I r ⟨S, M, ds, Qd, m, rd, h, k⟩
  unfold anyC at h
  split at h
  · obtain ⟨v, rfl, rv⟩ := dvs1 rd
    obtain ⟨ns, rfl, q⟩ := h
    obtain ⟨a, xs, rfl, ha, da⟩ := dv_lst rv
    cases dq_bools da
    exact cr_any hc pins s σ H _ us Q I r ⟨a, ns, rfl, .of (imm_sub _ _ ha), k.here m dvB q⟩
  · exact h.elim
theorem c_tuple : CallR X (.type "tuple") (liftC tupleC) := by
  rintro pins s σ H vs us Q I r ⟨S, M, ds, Qd, m, rd, h, k⟩
  unfold tupleC at h
  split at h
  · obtain ⟨v, rfl, rv⟩ := dvs1 rd
    obtain ⟨ds, ps, e, e2, q⟩ := h
    obtain ⟨a, xs, rfl, hq, hd⟩ := seq_at (K := X.K) m rv e
    have hk := seq_kind (K := X.K) m rv e
    have da := hd.dats e2
    rcases hq with hq | hq
    · refine call_tuple_of pins s σ H _ us Q I r ⟨a, xs, rfl, .inl ⟨hq, fun l hl => ?_⟩⟩
      obtain ⟨m1, g1, i1⟩ := m.new hl (.tup xs)
      exact k _ _ _ _ g1 m1 (dv_tup_mk i1 (DqAll_mono (g1.imm S) _ _ da)) q
    · refine call_tuple_of pins s σ H _ us Q I r ⟨a, xs, rfl, .inr ⟨hq, ?_⟩⟩
      rename_i d
      cases d with
      | ref b =>
        exfalso
        obtain ⟨ys, hy, _⟩ := hk
        have hy' : SqL X.K H a ys := hy
        obtain ⟨its, _, ⟨o, n, e1, c1, _⟩, _⟩ := I.list hy'
        obtain ⟨its2, _, ⟨o2, e3, c2, _⟩, _⟩ := I.tuple hq
        rw [e1] at e3; cases e3
        rw [c1] at c2; exact absurd (Value.type.inj c2) (by decide)
      | dat pd =>
        unfold seqOf at e
        split at e
        · rename_i qs z
          cases z
          exfalso
          obtain ⟨ys, hy, _⟩ := hk
          have hy' : SqL X.K H a ys := hy
          obtain ⟨its, _, ⟨o, n, e1, c1, _⟩, _⟩ := I.list hy'
          obtain ⟨its2, _, ⟨o2, e3, c2, _⟩, _⟩ := I.tuple hq
          rw [e1] at e3; cases e3
          rw [c1] at c2; exact absurd (Value.type.inj c2) (by decide)
        · rename_i qs z
          cases z
          cases e
          rw [datsOf_map] at e2; cases e2
          exact k.here m rv q
        · rename_i z; cases z
        · cases e
      | exn a' d' w' n' => cases e
  · exact h.elim
theorem c_list : CallR X (.type "list") (liftC listC) := by
  rintro pins s σ H vs us Q I r ⟨S, M, ds, Qd, m, rd, h, k⟩
  unfold listC at h
  split at h
  · obtain ⟨v, rfl, rv⟩ := dvs1 rd
    obtain ⟨ds, ps, e, e2, q⟩ := h
    obtain ⟨a, xs, rfl, hq, hd⟩ := seq_at (K := X.K) m rv e
    have da := hd.dats e2
    refine call_list_of pins s σ H _ us Q I r ⟨a, xs, rfl, hq, fun l hl => ?_⟩
    obtain ⟨m1, g1, i1⟩ := m.new hl (.lst xs)
    exact k _ _ _ _ g1 m1 (dv_lst_mk i1 (DqAll_mono (g1.imm S) _ _ da)) q
  · exact h.elim
theorem c_listM : CallR X (.type "list") (liftC listM) := by
  rintro pins s σ H vs us Q I r ⟨S, M, ds, Qd, m, rd, h, k⟩
  unfold listM at h
  split at h
  · obtain ⟨v, rfl, rv⟩ := dvs1 rd
    obtain ⟨ds, e, q⟩ := h
    obtain ⟨a, xs, rfl, hq, hd⟩ := seq_at (K := X.K) m rv e
    refine call_list_of pins s σ H _ us Q I r ⟨a, xs, rfl, hq, fun l hl => ?_⟩
    obtain ⟨m1, g1⟩ := m.newM (o := .lst ds) (u := .lst xs) hl ⟨xs, upd_same, hd⟩
    exact k _ _ _ _ g1 m1 dvR (q l (m.free hl))
  · exact h.elim
end

/-! ### isinstance -/
def tyName (M : Mp) : D → Option String
  | .dat .none => some "NoneType"
  | .dat (.bool _) => some "bool"
  | .dat (.int _) => some "int"
  | .dat (.str _) => some "str"
  | .dat (.list _) => some "list"
  | .dat (.tuple _) => some "tuple"
  | .dat (.dict _) => none
  | .exn _ _ _ _ => none
  | .ref a => match M a with
    | some (.lst _) => some "list"
    | some (.frz _) => some "list"
    | _ => none
def isiB (t T : String) : Bool := t == T || (t == "bool" && T == "int")
def dIsi (T : String) (te : DE) : DE := fun δ M Q => te δ M fun d M1 => ∃ t, tyName M1 d = some t ∧ Q (.dat (.bool (isiB t T))) M1
def okTy (T : String) : Prop := ∀ t ∈ ["NoneType", "bool", "int", "str", "list", "tuple"], kitB t T = some (isiB t T)
theorem okTy_tuple : okTy "tuple" := by intro t ht; simp only [List.mem_cons, List.not_mem_nil, or_false] at ht; rcases ht with rfl | rfl | rfl | rfl | rfl | rfl <;> decide +kernel
theorem okTy_int : okTy "int" := by intro t ht; simp only [List.mem_cons, List.not_mem_nil, or_false] at ht; rcases ht with rfl | rfl | rfl | rfl | rfl | rfl <;> decide +kernel
theorem okTy_str : okTy "str" := by intro t ht; simp only [List.mem_cons, List.not_mem_nil, or_false] at ht; rcases ht with rfl | rfl | rfl | rfl | rfl | rfl <;> decide +kernel
theorem okTy_bool : okTy "bool" := by intro t ht; simp only [List.mem_cons, List.not_mem_nil, or_false] at ht; rcases ht with rfl | rfl | rfl | rfl | rfl | rfl <;> decide +kernel
section
variable {X : Cx}
theorem ty_at {K : PySem.W.Frag} {S : Hid} {M : Mp} {H : Hp} {v : V} {d : D} {t : String} (m : RepM S M H) (r : DV (Imm M S H) v d) (h : tyName M d = some t) : TyOf K H v (.type t) ∧ t ∈ ["NoneType", "bool", "int", "str", "list", "tuple"] := by
  unfold tyName at h
  split at h <;> first
    | (cases h; first
        | (cases dv_non r; exact ⟨.non, by simp⟩)
        | (cases dv_bl r; exact ⟨.bl _, by simp⟩)
        | (cases dv_int r; exact ⟨.int _, by simp⟩)
        | (cases dv_str r; exact ⟨.str _, by simp⟩)
        | (obtain ⟨a, xs, rfl, ha, _⟩ := dv_lst r; exact ⟨.lst (imm_sub _ _ ha), by simp⟩)
        | (obtain ⟨a, xs, rfl, ha, _⟩ := dv_tup r; exact ⟨.tup (imm_sub _ _ ha), by simp⟩))
    | skip
  · cases h
  · cases h
  rename_i a
  cases (show v = .ref a from r)
  split at h
  · rename_i ds e
    cases h
    obtain ⟨vs, h1, _⟩ := m.obj a _ e
    exact ⟨.lst h1, by simp⟩
  · rename_i ds e
    cases h
    obtain ⟨o, vs, h1, _⟩ := m.obj a _ e
    exact ⟨.frz h1, by simp⟩
  · cases h
theorem q_isi {e : Expr} {te : DE} {T : String} {xT : Str} {p p2 pos : Pos} (ok : okTy T) (hg : Gl X "isinstance") (hm : X.mg "isinstance" = none) (hv : bootBuiltins "isinstance" = some (.builtin "isinstance")) (hgT : Gl X xT) (hmT : X.mg xT = none) (hvT : bootBuiltins xT = some (.type T)) (he : QE X e te)
    (hnT : xT ≠ "__name__" := by decide) (hdT : (xT == ("__debug__" : Str)) = false := by decide)
    (h1 : starEach [e, .Name xT p2] X.env = (false, eval e X.env) :: starEach [.Name xT p2] X.env := by rfl) (h2 : starEach [.Name xT p2] X.env = (false, eval (.Name xT p2) X.env) :: starEach [] X.env := by rfl)
    (hpl : (backTo pos (starEach [.Name xT p2] X.env)).any (·.1) = false := by rfl) : QE X (.Call (.Name "isinstance" p) [e, .Name xT p2] [] pos) (dIsi T te) :=
  PE_imp (pe_callB call_isi hg hm hv (pa_cons he (pa_cons (pe_bltn (v := .ty T) (u := .type T) hgT hmT hvT rfl hnT hdT) pa_nil h2) h1) (by decide) (by decide) h1 hpl) fun σ H Q ⟨S, δ, M, Qd, r, h, k⟩ =>
    ⟨S, δ, M, _, r, h, fun d M1 v H1 g1 m1 r1 ⟨t, et, q⟩ => by
      obtain ⟨ty, ht⟩ := ty_at (K := X.K) m1 r1 et
      exact ⟨v, .ty T, .type t, .type T, isiB t T, rfl, .ty T, .base ty, kit_ty (ok t ht), k _ _ _ _ g1 m1 dvB q⟩⟩
end

/-! ### methods of lists -/
abbrev FM := D → List D → Mp → DK → Prop
def isListM (M : Mp) (d : D) : Prop := match d with
  | .ref a => ∃ ds, M a = some (.lst ds)
  | _ => False
def liftM (f : FM) : V → List V → Hp → VK → Prop := fun v vs H Q => ∃ S M d ds Qd, RepM S M H ∧ DV (Imm M S H) v d ∧ DVs (Imm M S H) vs ds ∧ f d ds M Qd ∧ Fin S M H Qd Q
def dMeth (f : FM) (to : DE) (ta : DA) : DE := fun δ M Q => to δ M fun o M1 => isListM M1 o ∧ ta δ M1 fun ds M2 => f o ds M2 Q
def dMeth0 (f : FM) (to : DE) : DE := fun δ M Q => to δ M fun o M1 => isListM M1 o ∧ f o [] M1 Q
section
variable {X : Cx} {o e : Expr} {es : List Expr} {to : DE} {ta : DA} {name : Str} {apos cpos : Pos} {id : String} {f : FM}
theorem tyV_list {K : PySem.W.Frag} {S : Hid} {M : Mp} {H : Hp} {v : V} {d : D} (m : RepM S M H) (r : DV (Imm M S H) v d) (h : isListM M d) : tyV K "list" v H := by
  cases d with
  | ref a =>
    obtain ⟨ds, e⟩ := h
    cases (show v = .ref a from r)
    obtain ⟨vs, h1, _⟩ := m.obj a _ e
    exact .inl ⟨rfl, vs, .of h1⟩
  | dat p => exact h.elim
  | exn a' d' w' n' => exact h.elim
theorem q_meth (slot : Slot "list" name id) (hty : typeOf (.builtin id) = pure (.type "method_descriptor")) (hm : MtR X id (liftM f)) (ho : QE X o to) (ha : QA X (e :: es) ta)
    (hbase : attributeBase o name X.env (eval o X.env) = eval o X.env := by rfl)
    (hfew : ((backTo cpos (starEach (e :: es) X.env)).all (fun x => !x.1) && (backToKw cpos (keywordEach [] X.env)).all (fun x => x.1.isSome)
      && decide ((e :: es).length + ([] : List Keyword).length + (if ([] : List Keyword).isEmpty then 0 else 1) < 30)) = true := by rfl)
    (hline : (apos.endLine == cpos.line) = true := by rfl) (hs : starEach (e :: es) X.env = (false, eval e X.env) :: starEach es X.env := by rfl) (hplain : (backTo cpos (starEach es X.env)).any (·.1) = false := by rfl) :
    QE X (.Call (.Attribute o name apos) (e :: es) [] cpos) (dMeth f to ta) := PE_imp (pe_bm PySem.F.plainAttrs_list slot hty hm ho ha hbase hfew hline hs hplain) fun σ H Q ⟨S, δ, M, Qd, r, h, k⟩ =>
  ⟨S, δ, M, _, r, h, fun d M1 v H1 g1 m1 r1 ⟨il, q1⟩ => ⟨tyV_list m1 r1 il, S, δ, M1, _, r.grow g1 m1, q1, fun ds M2 vs H2 g2 m2 r2 q2 => ⟨S, M2, d, ds, Qd, m2, r1.mono (g2.imm S), r2, q2, k.grow (g1.trans g2)⟩⟩⟩
theorem q_meth0 (slot : Slot "list" name id) (hty : typeOf (.builtin id) = pure (.type "method_descriptor")) (hm : MtR X id (liftM f)) (ho : QE X o to)
    (hbase : attributeBase o name X.env (eval o X.env) = eval o X.env := by rfl) (hline : (apos.endLine == cpos.line) = true := by rfl) : QE X (.Call (.Attribute o name apos) [] [] cpos) (dMeth0 f to) := PE_imp (pe_bm0 PySem.F.plainAttrs_list slot hty hm ho hbase hline) fun σ H Q ⟨S, δ, M, Qd, r, h, k⟩ =>
  ⟨S, δ, M, _, r, h, fun d M1 v H1 g1 m1 r1 ⟨il, q1⟩ => ⟨tyV_list m1 r1 il, S, M1, d, [], Qd, m1, r1, .nil, q1, k.grow g1⟩⟩
def appendM : FM := fun o ds M Q => match o, ds with
  | .ref a, [d] => ∃ xs, M a = some (.lst xs) ∧ xs.length < 16777216 ∧ Q (.dat .none) (updM M a (.lst (xs ++ [d])))
  | _, _ => False
def popM : FM := fun o ds M Q => match o, ds with
  | .ref a, [] => ∃ xs d, M a = some (.lst (xs ++ [d])) ∧ Q d (updM M a (.lst xs))
  | _, _ => False
def extendM : FM := fun o ds M Q => match o, ds with
  | .ref a, [.dat (.list ps)] => ∃ xs, M a = some (.lst xs) ∧ xs.length + ps.length ≤ 16777216 ∧ Q (.dat .none) (updM M a (.lst (xs ++ ps.map .dat)))
  | _, _ => False
theorem m_append : MtR X "list.append" (liftM appendM) := by
  rintro pins s σ H v vs u us Q I rv rvs ⟨S, M, d, ds, Qd, m, hd, hds, h, k⟩
  unfold appendM at h
  split at h
  · rename_i a d
    obtain ⟨xs, e, hl, q⟩ := h
    cases (show v = .ref a from hd)
    obtain ⟨w, rfl, rw'⟩ := dvs1 hds
    obtain ⟨zs, h1, h2⟩ := m.obj a _ e
    refine mt_append pins s σ H _ _ u us Q I rv rvs ⟨a, zs, w, rfl, rfl, h1, by rw [sizeLine_eq, DVs_len h2]; exact hl, ?_⟩
    obtain ⟨m1, g1⟩ := m.put (o := .lst (xs ++ [d])) (u := .lst (zs ++ [w])) (by rw [e]; rfl) ⟨_, upd_same, DVs_append h2 (.cons rw' .nil)⟩
    exact k _ _ _ _ g1 m1 dvN q
  · exact h.elim
theorem m_pop : MtR X "list.pop" (liftM popM) := by
  rintro pins s σ H v vs u us Q I rv rvs ⟨S, M, d, ds, Qd, m, hd, hds, h, k⟩
  unfold popM at h
  split at h
  · rename_i a
    obtain ⟨xs, d, e, q⟩ := h
    cases (show v = .ref a from hd)
    cases dvs0 hds
    obtain ⟨zs, h1, h2⟩ := m.obj a _ e
    have hl := DVs_len h2
    rw [List.length_append, List.length_singleton] at hl
    have hg : (xs ++ [d])[zs.length - 1]? = some d := by
      rw [show zs.length - 1 = xs.length by omega, List.getElem?_append_right (Nat.le_refl _), Nat.sub_self]; rfl
    obtain ⟨y, ey, ry⟩ := DVs_get h2 hg
    have hdr : DVs (Imm M S H) zs.dropLast xs := by
      have := DVs_take xs.length h2
      rw [List.take_left] at this
      rw [List.dropLast_eq_take, show zs.length - 1 = xs.length by omega]
      exact this
    refine mt_pop pins s σ H _ _ u us Q I rv rvs ⟨a, zs, y, rfl, rfl, h1, ey, ?_⟩
    obtain ⟨m1, g1⟩ := m.put (o := .lst xs) (u := .lst zs.dropLast) (by rw [e]; rfl) ⟨_, upd_same, hdr⟩
    exact k _ _ _ _ g1 m1 (ry.mono (g1.imm S)) q
  · exact h.elim
theorem m_extend : MtR X "list.extend" (liftM extendM) := by
  rintro pins s σ H v vs u us Q I rv rvs ⟨S, M, d, ds, Qd, m, hd, hds, h, k⟩
  unfold extendM at h
  split at h
  · rename_i a ps
    obtain ⟨xs, e, hl, q⟩ := h
    cases (show v = .ref a from hd)
    obtain ⟨w, rfl, rw'⟩ := dvs1 hds
    obtain ⟨b, ys, rfl, hb, db⟩ := dv_lst rw'
    obtain ⟨zs, h1, h2⟩ := m.obj a _ e
    refine mt_extend pins s σ H _ _ u us Q I rv rvs ⟨a, b, zs, ys, rfl, rfl, h1, imm_sub _ _ hb, by rw [sizeLine_eq, DVs_len h2, db.length]; exact hl, ?_⟩
    obtain ⟨m1, g1⟩ := m.put (o := .lst (xs ++ ps.map .dat)) (u := .lst (zs ++ ys)) (by rw [e]; rfl) ⟨_, upd_same, DVs_append h2 db.dvs⟩
    exact k _ _ _ _ g1 m1 dvN q
  · exact h.elim
end
end DL
set_option Elab.async false
set_option linter.all false
set_option maxRecDepth 100000
/-! DL6: defs and their calls. -/
namespace DL
open PySem PySem.Spec PyProof.Rows L2

def optAll {α β : Type} (f : α → Option β) : List α → Option (List β)
  | [] => some []
  | a :: r => match f a, optAll f r with
    | some b, some bs => some (b :: bs)
    | _, _ => none
def view0 : D → Option PyData
  | .dat p => some p
  | _ => none
def view1 (M : Mp) : D → Option PyData
  | .dat p => some p
  | .ref a => match M a with
    | some (.lst ds) => (optAll view0 ds).map .list
    | _ => none
  | .exn _ _ _ _ => none
/-- what stands at a value as a datum now -/
def viewD (M : Mp) : D → Option PyData
  | .dat p => some p
  | .ref a => match M a with
    | some (.lst ds) => (optAll (view1 M) ds).map .list
    | _ => none
  | .exn _ _ _ _ => none
section
variable {S : Hid} {M : Mp} {H : Hp}
theorem RepM.vis {a : Addr} {o : MO} {u : HO} (m : RepM S M H) (e : M a = some o) (h : H a = some u) : Imm M0 S H a = some u := by
  refine imm_some.mpr ⟨rfl, ?_, h⟩
  cases q : S a with
  | false => rfl
  | true => rw [(m.hid a q).1] at e; cases e
theorem imm_M0 : Same (Imm M S H) (Imm M0 S H) := fun b o h => let ⟨_, h2, h3⟩ := imm_some.mp h; imm_some.mpr ⟨rfl, h2, h3⟩
theorem optAll_dq {f : D → Option PyData} (hf : ∀ v d p, DV (Imm M S H) v d → f d = some p → Dq (Imm M0 S H) v p) : ∀ {vs : List V} {ds : List D} {ps : List PyData}, DVs (Imm M S H) vs ds → optAll f ds = some ps → DqAll (Imm M0 S H) vs ps
  | _, _, _, .nil, h => by cases h; exact .nil
  | _, d :: ds, ps, .cons h1 h2, h => by
    unfold optAll at h
    split at h
    · rename_i b bs e1 e2
      cases h
      exact .cons (hf _ _ _ h1 e1) (optAll_dq hf h2 e2)
    · cases h
theorem view0_ok {v : V} {d : D} {p : PyData} (r : DV (Imm M S H) v d) (h : view0 d = some p) : Dq (Imm M0 S H) v p := by
  cases d with
  | dat q => cases h; exact Dq_mono imm_M0 _ _ r
  | ref a => cases h
  | exn a' d' w' n' => cases h
theorem view1_ok (m : RepM S M H) {v : V} {d : D} {p : PyData} (r : DV (Imm M S H) v d) (h : view1 M d = some p) : Dq (Imm M0 S H) v p := by
  cases d with
  | dat q => cases h; exact Dq_mono imm_M0 _ _ r
  | ref a =>
    have h : (match M a with | some (.lst ds) => (optAll view0 ds).map .list | _ => none) = some p := h
    split at h
    · rename_i ds e
      obtain ⟨vs, h1, h2⟩ := m.obj a _ e
      cases q : optAll view0 ds with
      | none => rw [q] at h; cases h
      | some ps =>
        rw [q] at h; cases h
        cases (show v = .ref a from r)
        exact .lst (m.vis e h1) (optAll_dq (fun v d p r h => view0_ok r h) h2 q)
    · cases h
  | exn a' d' w' n' => cases h
theorem viewD_ok (m : RepM S M H) {v : V} {d : D} {p : PyData} (r : DV (Imm M S H) v d) (h : viewD M d = some p) : Dq (Imm M0 S H) v p := by
  cases d with
  | dat q => cases h; exact Dq_mono imm_M0 _ _ r
  | ref a =>
    have h : (match M a with | some (.lst ds) => (optAll (view1 M) ds).map .list | _ => none) = some p := h
    split at h
    · rename_i ds e
      obtain ⟨vs, h1, h2⟩ := m.obj a _ e
      cases q : optAll (view1 M) ds with
      | none => rw [q] at h; cases h
      | some ps =>
        rw [q] at h; cases h
        cases (show v = .ref a from r)
        exact .lst (m.vis e h1) (optAll_dq (fun v d p r h => view1_ok m r h) h2 q)
    · cases h
  | exn a' d' w' n' => cases h
end

/-- what a def is worth, by data: the arguments, what is wanted of its answer, of an exception -/
abbrev PSp := List PyData → (PyData → Prop) → (Xn → Prop) → Prop
/-- Z: what the arguments do not lean on -/
def pureSp (sp : PSp) : Sp := fun vs H Q E => ∃ (Z : Hid) (ps : List PyData) (Qd : PyData → Prop) (Ed : Xn → Prop), (∀ a, Z a = true → Lsty (H a)) ∧ DqAll (Imm M0 Z H) vs ps ∧ sp ps Qd Ed ∧ (∀ r v H', Same H H' → Dq (Imm M0 Z H') v r → Qd r → Q v H') ∧
  (∀ (x : Xn) d H', Same H H' → Imm M0 Z H' d = some (xdF x.word x.num) → Ed x → E (.ref x.cls) (some d) H')
/-- a def that changes mutable objects -/
abbrev MSp := List D → Mp → DK → Prop
def memSp (sp : MSp) : Sp := fun vs H Q _ => ∃ S M ds Qd, RepM S M H ∧ DVs (Imm M S H) vs ds ∧ sp ds M Qd ∧ Fin S M H Qd Q

def startD (N : List Str) (ds : List D) : Sd := ds.map some ++ List.replicate (N.length - ds.length) none
theorem slots_start {HI : Hp} {vs : List V} {ds : List D} (N : List Str) (h : DVs HI vs ds) : Slots HI (L2.start N vs) (startD N ds) := by
  have hl := DVs_len h
  refine ⟨by unfold L2.start startD; simp [hl], fun i d e => ?_⟩
  unfold startD at e
  rcases Nat.lt_or_ge i ds.length with z | z
  · rw [List.getElem?_append_left (by simpa using z), List.getElem?_map] at e
    cases q : ds[i]? with
    | none => rw [q] at e; cases e
    | some d' =>
      rw [q] at e; cases e
      obtain ⟨v, e1, e2⟩ := DVs_get h q
      refine ⟨v, ?_, e2⟩
      unfold L2.start
      rw [List.getElem?_append_left (by simpa [hl] using z), List.getElem?_map, e1]
      rfl
  · rw [List.getElem?_append_right (by simpa using z), List.getElem?_replicate] at e
    split at e <;> cases e
theorem rep0 {Z : Hid} {H : Hp} (h : ∀ a, Z a = true → Lsty (H a)) : RepM Z M0 H := by
  refine ⟨fun a o e => ?_, fun a e => ⟨rfl, h a e⟩⟩
  have e' : (none : Option MO) = some o := e
  cases e'
theorem grow0 {H H' : Hp} {M : Mp} (g : Grow M0 H M H') : Same H H' := fun b o e => (g b o rfl e).2
section
variable {P : Program} {w : World} {K : PySem.W.Frag} {mg : Str → Option Value} {base : Heap} {x qual : Str} {st : Stmt} {f : Addr} {fd : FuncData} {N ps : List Str} {k : Nat} {t : DS}
/-- a def that reads its arguments and gives a datum, and raises nothing -/
theorem fn_pure {sp : PSp} (F : Fun K x qual st f fd) (S : FnScope N ps (defScope st)) (hlen : ∀ qs Qd Ed, sp qs Qd Ed → qs.length = ps.length)
    (walk : ∀ (cdv : Value) (A : Around) (outer : List Env) (s : Shared) (H : Hp) (E : XK), Room k (A.deeper (envOfC qual (defScope st) s.heap.objs.size f cdv)) → QSs (cxOf CX0 P w K mg base N qual (defScope st) f cdv A outer s H E).nox (defBody st) t)
    (law : ∀ qs Qd Ed, sp qs Qd Ed → t { nx := fun _ _ => Qd .none, rt := fun d M => ∃ r, viewD M d = some r ∧ Qd r } (startD N (qs.map .dat)) M0) : FnOk P w K mg base CX0 (k + 1) f fd ps (pureSp sp) := by
  refine F.ok S (fun vs H Q E ⟨Z, qs, Qd, Ed, _, dq, h, _⟩ => by rw [dq.length]; exact hlen _ _ _ h) fun cdv A outer s H vs Q E hr hs => ⟨_, walk cdv A outer s H E hr, ?_⟩
  obtain ⟨Z, qs, Qd, Ed, hZ, dq, h, k1, k2⟩ := hs
  refine ⟨Z, startD N (qs.map .dat), M0, _, ⟨rep0 hZ, slots_start N dq.dvs⟩, law qs Qd Ed h, ⟨fun δ' M' σ' H' g r q => ?_, fun d M' v H' g m r ⟨z, e, q⟩ => ?_, fun _ _ _ _ _ _ q => q, fun _ _ _ _ _ _ q => q, fun _ _ _ _ _ _ _ _ _ q => q.elim⟩⟩
  · exact k1 .none .non H' (grow0 g) .non q
  · exact k1 z v H' (grow0 g) (viewD_ok m r e) q
theorem fn_mem {sp : MSp} (F : Fun K x qual st f fd) (S : FnScope N ps (defScope st)) (hlen : ∀ ds M Qd, sp ds M Qd → ds.length = ps.length)
    (walk : ∀ (cdv : Value) (A : Around) (outer : List Env) (s : Shared) (H : Hp) (E : XK), Room k (A.deeper (envOfC qual (defScope st) s.heap.objs.size f cdv)) → QSs (cxOf CX0 P w K mg base N qual (defScope st) f cdv A outer s H E).nox (defBody st) t)
    (law : ∀ ds M Qd, sp ds M Qd → t { nx := fun _ M' => Qd (.dat .none) M', rt := Qd } (startD N ds) M) : FnOk P w K mg base CX0 (k + 1) f fd ps (memSp sp) := by
  refine F.ok S (fun vs H Q E ⟨S, M, ds, Qd, m, rd, h, _⟩ => by rw [DVs_len rd]; exact hlen _ _ _ h) fun cdv A outer s H vs Q E hr hs => ⟨_, walk cdv A outer s H E hr, ?_⟩
  obtain ⟨S, M, ds, Qd, m, rd, h, k1⟩ := hs
  exact ⟨S, startD N ds, M, _, ⟨m, slots_start N rd⟩, law ds M Qd h, ⟨fun δ' M' σ' H' g r q => k1 _ M' _ H' g r.m dvN q, k1, fun _ _ _ _ _ _ q => q, fun _ _ _ _ _ _ q => q, fun _ _ _ _ _ _ _ _ _ q => q.elim⟩⟩
end

/-! ### calls of defs -/
mutual
/-- no list within -/
def noList : PyData → Bool
  | .none => true
  | .bool _ => true
  | .int _ => true
  | .str _ => true
  | .list _ => false
  | .tuple ps => noLists ps
  | .dict _ => false
def noLists : List PyData → Bool
  | [] => true
  | p :: ps => noList p && noLists ps
end
section
variable {S : Hid} {M : Mp} {H : Hp}
mutual
theorem noList_dq (m : RepM S M H) : ∀ (d : PyData) (v : V), noList d = true → Dq H v d → Dq (Imm M S H) v d
  | .none, _, _, h => by cases h; exact .non
  | .bool b, _, _, h => by cases h; exact .bl b
  | .int i, _, _, h => by cases h; exact .int i
  | .str x, _, _, h => by cases h; exact .str x
  | .list ds, _, n, h => by cases n
  | .tuple ds, _, n, h => by
    cases h with
    | @tup a xs _ hs ha =>
      refine .tup (imm_some.mpr ⟨?_, ?_, hs⟩) (noLists_dq m ds _ n ha)
      · cases q : M a with
        | none => rfl
        | some o =>
          have r := m.obj a o q
          cases o with
          | lst _ => obtain ⟨_, e, _⟩ := r; rw [hs] at e; cases e
          | dct _ => obtain ⟨_, e, _⟩ := r; rw [hs] at e; cases e
          | frz _ => obtain ⟨_, _, e, _⟩ := r; rw [hs] at e; cases e
          | tab _ _ => obtain ⟨_, e, _⟩ := r; rw [hs] at e; cases e
          | cod _ => obtain ⟨_, e, _⟩ := r; rw [hs] at e; cases e
      · cases q : S a with
        | false => rfl
        | true =>
          have r := (m.hid a q).2
          rw [hs] at r
          exact r.elim
  | .dict _, _, n, h => by cases n
theorem noLists_dq (m : RepM S M H) : ∀ (ds : List PyData) (vs : List V), noLists ds = true → DqAll H vs ds → DqAll (Imm M S H) vs ds
  | [], _, _, h => by cases h; exact .nil
  | d :: ds, _, n, h => by
    have n' : noList d = true ∧ noLists ds = true := by
      have : (noList d && noLists ds) = true := n
      exact Bool.and_eq_true_iff.mp this
    cases h with
    | cons h1 h2 => exact .cons (noList_dq m d _ n'.1 h1) (noLists_dq m ds _ n'.2 h2)
end
/-- all that may change, with what is hid -/
def hidM (M : Mp) (S : Hid) : Hid := fun b => (M b).isSome || S b
theorem imm_hidM : Imm M0 (hidM M S) H = Imm M S H := by
  funext b
  unfold Imm hidM M0
  simp
theorem hidM_ok (m : RepM S M H) : ∀ a, hidM M S a = true → Lsty (H a) := fun a h => by
  unfold hidM at h
  rcases Bool.or_eq_true_iff.mp h with e | e
  · cases q : M a with
    | none => rw [q] at e; cases e
    | some o =>
      have r := m.obj a o q
      cases o with
      | lst _ => obtain ⟨_, e, _⟩ := r; rw [e]; trivial
      | dct _ => obtain ⟨_, e, _⟩ := r; rw [e]; trivial
      | frz _ => obtain ⟨_, _, e, _⟩ := r; rw [e]; trivial
      | tab _ _ => obtain ⟨_, e, _⟩ := r; rw [e]; trivial
      | cod _ => obtain ⟨_, e, _⟩ := r; rw [e]; trivial
  · exact (m.hid a e).2
end
/-- f(..): a def that reads data -/
def dCallP (sp : PSp) (ta : DA) : DE := fun δ M Q => ta δ M fun ds M1 => ∃ ps, datsOf ds = some ps ∧ sp ps (fun r => Q (.dat r) M1) (fun _ => False)
/-- .. among whose arguments are objects of ours that may change -/
def dCallB (sp : PSp) (ta : DA) : DE := fun δ M Q => ta δ M fun ds M1 => ∃ ps, optAll (viewD M1) ds = some ps ∧ sp ps (fun r => noList r = true ∧ Q (.dat r) M1) (fun _ => False)
def dCallM (sp : MSp) (ta : DA) : DE := fun δ M Q => ta δ M fun ds M1 => sp ds M1 Q
section
variable {ta : DA} {σ : L2.St} {H : Hp} {Q : VK} {E : XK}
theorem callP_lift {sp : PSp} (h : liftE (dCallP sp ta) σ H Q) : tCall (pureSp sp) [] E (liftA ta) σ H Q := by
  obtain ⟨S, δ, M, Qd, r, h, k⟩ := h
  refine ⟨S, δ, M, _, r, h, fun ds M1 vs H1 g1 m1 r1 ⟨ps, e, q⟩ => ?_⟩
  show pureSp sp (vs ++ []) H1 Q E
  rw [List.append_nil]
  refine ⟨hidM M1 S, ps, _, _, hidM_ok m1, by rw [imm_hidM]; exact r1.dats e, q, fun rr v H' e' dq qq => ?_, fun _ _ _ _ _ z => z.elim⟩
  have m2 := m1.same e'
  rw [imm_hidM] at dq
  exact k (.dat rr) _ _ _ (g1.trans (Grow.same e')) m2 dq qq
theorem callB_lift {sp : PSp} (h : liftE (dCallB sp ta) σ H Q) : tCall (pureSp sp) [] E (liftA ta) σ H Q := by
  obtain ⟨S, δ, M, Qd, r, h, k⟩ := h
  refine ⟨S, δ, M, _, r, h, fun ds M1 vs H1 g1 m1 r1 ⟨ps, e, q⟩ => ?_⟩
  show pureSp sp (vs ++ []) H1 Q E
  rw [List.append_nil]
  refine ⟨S, ps, _, _, fun a h => (m1.hid a h).2, optAll_dq (fun v d p r h => viewD_ok m1 r h) r1 e, q, fun rr v H' e' dq qq => ?_, fun _ _ _ _ _ z => z.elim⟩
  have m2 := m1.same e'
  exact k (.dat rr) _ _ _ (g1.trans (Grow.same e')) m2 (noList_dq m2 _ _ qq.1 (Dq_mono imm_sub _ _ dq)) qq.2
theorem callM_lift {sp : MSp} (h : liftE (dCallM sp ta) σ H Q) : tCall (memSp sp) [] E (liftA ta) σ H Q := by
  obtain ⟨S, δ, M, Qd, r, h, k⟩ := h
  refine ⟨S, δ, M, _, r, h, fun ds M1 vs H1 g1 m1 r1 q => ?_⟩
  show memSp sp (vs ++ []) H1 Q E
  rw [List.append_nil]
  exact ⟨S, M1, ds, Qd, m1, r1, q, k.grow g1⟩
end
section
variable {X : Cx} {CX : CXT} {k : Nat} {f : Addr} {fd : FuncData} {ps : List Str} {x : Str} {p pos : Pos} {e : Expr} {es : List Expr} {ta : DA}
theorem q_callP {sp : PSp} (F : FnOk X.prog X.w X.K X.mg X.base CX k f fd ps (pureSp sp)) (hr : Room k X.A) (hg : Gl X x) (hm : X.mg x = some (.ref f)) (hk : PySem.W.keepIn X.K (.ref f) = true) (hb : Binds X.K fd ps []) (hx : Passes CX X E0) (ha : QA X (e :: es) ta)
    (hdb : (x == ("__debug__" : Str)) = false := by decide) (he : starEach (e :: es) X.env = (false, eval e X.env) :: starEach es X.env := by rfl) (hpl : (backTo pos (starEach es X.env)).any (·.1) = false := by rfl) : QE X (.Call (.Name x p) (e :: es) [] pos) (dCallP sp ta) :=
  PE_imp (pe_call F hr hg hm hk hb .nil hx ha hdb he hpl) fun _ _ _ => callP_lift
theorem q_callBr {sp : PSp} (F : FnOk X.prog X.w X.K X.mg X.base CX k f fd ps (pureSp sp)) (hr : Room k X.A) (hg : Gl X x) (hm : X.mg x = some (.ref f)) (hk : PySem.W.keepIn X.K (.ref f) = true) (hb : Binds X.K fd ps []) (hx : Passes CX X E0) (ha : QA X (e :: es) ta)
    (hdb : (x == ("__debug__" : Str)) = false := by decide) (he : starEach (e :: es) X.env = (false, eval e X.env) :: starEach es X.env := by rfl) (hpl : (backTo pos (starEach es X.env)).any (·.1) = false := by rfl) : QE X (.Call (.Name x p) (e :: es) [] pos) (dCallB sp ta) :=
  PE_imp (pe_call F hr hg hm hk hb .nil hx ha hdb he hpl) fun _ _ _ => callB_lift
theorem q_callM {sp : MSp} (F : FnOk X.prog X.w X.K X.mg X.base CX k f fd ps (memSp sp)) (hr : Room k X.A) (hg : Gl X x) (hm : X.mg x = some (.ref f)) (hk : PySem.W.keepIn X.K (.ref f) = true) (hb : Binds X.K fd ps []) (hx : Passes CX X E0) (ha : QA X (e :: es) ta)
    (hdb : (x == ("__debug__" : Str)) = false := by decide) (he : starEach (e :: es) X.env = (false, eval e X.env) :: starEach es X.env := by rfl) (hpl : (backTo pos (starEach es X.env)).any (·.1) = false := by rfl) : QE X (.Call (.Name x p) (e :: es) [] pos) (dCallM sp ta) :=
  PE_imp (pe_call F hr hg hm hk hb .nil hx ha hdb he hpl) fun _ _ _ => callM_lift
theorem q_call0P {sp : PSp} (F : FnOk X.prog X.w X.K X.mg X.base CX k f fd ps (pureSp sp)) (hr : Room k X.A) (hg : Gl X x) (hm : X.mg x = some (.ref f)) (hk : PySem.W.keepIn X.K (.ref f) = true) (hb : Binds X.K fd ps []) (hx : Passes CX X E0)
    (hdb : (x == ("__debug__" : Str)) = false := by decide) : QE X (.Call (.Name x p) [] [] pos) (dCallP sp aNil) :=
  PE_imp (pe_call0 F hr hg hm hk hb .nil hx hdb) fun σ H Q h => by
    obtain ⟨S, δ, M, Qd, r, ⟨ps, e, q⟩, k⟩ := h
    cases e
    refine ⟨hidM M S, [], _, _, hidM_ok r.m, .nil, q, fun rr v H' e' dq qq => ?_, fun _ _ _ _ _ z => z.elim⟩
    have m2 := r.m.same e'
    rw [imm_hidM] at dq
    exact k (.dat rr) _ _ _ (Grow.same e') m2 dq qq
end
end DL
set_option Elab.async false
set_option linter.all false
set_option maxRecDepth 100000
/-! DL7: the text's places, the facts of its top. -/
namespace DL
open PySem PySem.Spec PyProof.Rows L2
def topS (i : Nat) : Stmt := PySem.Challenge.pw_stoodthere_k63_whole_floors.main.body.getD i (.Pass ⟨0, 0, 0, 0⟩)
theorem bi_len : bootBuiltins "len" = some (.builtin "len") := by decide +kernel
theorem bi_sum : bootBuiltins "sum" = some (.builtin "sum") := by decide +kernel
theorem bi_all : bootBuiltins "all" = some (.builtin "all") := by decide +kernel
theorem bi_any : bootBuiltins "any" = some (.builtin "any") := by decide +kernel
theorem bi_min : bootBuiltins "min" = some (.builtin "min") := by decide +kernel
theorem bi_sorted : bootBuiltins "sorted" = some (.builtin "sorted") := by decide +kernel
theorem bi_isinstance : bootBuiltins "isinstance" = some (.builtin "isinstance") := by decide +kernel
theorem bi_int : bootBuiltins "int" = some (.type "int") := by decide +kernel
theorem bi_str : bootBuiltins "str" = some (.type "str") := by decide +kernel
theorem bi_bool : bootBuiltins "bool" = some (.type "bool") := by decide +kernel
theorem bi_tuple : bootBuiltins "tuple" = some (.type "tuple") := by decide +kernel
theorem bi_list : bootBuiltins "list" = some (.type "list") := by decide +kernel
theorem bi_set : bootBuiltins "set" = some (.type "set") := by decide +kernel
def aLetters : Str := Str.ofString "abcdefghijklmnopqrstuvwxyz"
def aOthers : Str := Str.ofString "0123456789-"
/-- what the top leaves: the built-in names are free, two texts -/
structure Txt (K : PySem.W.Frag) (mg : Str → Option Value) : Prop where
  len_ : mg "len" = none
  sum_ : mg "sum" = none
  all_ : mg "all" = none
  any_ : mg "any" = none
  min_ : mg "min" = none
  sorted_ : mg "sorted" = none
  isinstance_ : mg "isinstance" = none
  int_ : mg "int" = none
  str_ : mg "str" = none
  bool_ : mg "bool" = none
  tuple_ : mg "tuple" = none
  list_ : mg "list" = none
  set_ : mg "set" = none
  range_ : mg "range" = none
  reversed_ : mg "reversed" = none
  zip_ : mg "zip" = none
  enumerate_ : mg "enumerate" = none
  heappush_ : mg "heappush" = some (.builtin "_heapq.heappush")
  heappop_ : mg "heappop" = some (.builtin "_heapq.heappop")
  A_LETTERS : ∃ t, mg "_A_LETTERS" = some (.str aLetters t)
  A_OTHERS : ∃ t, mg "_A_OTHERS" = some (.str aOthers t)
/-- a def that may be called -/
structure Cal (P : Program) (w : World) (K : PySem.W.Frag) (mg : Str → Option Value) (base : Heap) (CX : CXT) (k : Nat) (x : Str) (ps : List Str) (sp : Sp) (f : Addr) (fd : FuncData) : Prop where
  ok : FnOk P w K mg base CX k f fd ps sp
  mg : mg x = some (.ref f)
  kp : PySem.W.keepIn K (.ref f) = true
  b : Binds K fd ps []
theorem hu65 {A : Around} {k : Nat} (hr : Room k A) : A.units + 65 < cLine := by have := hr.un; omega
end DL
set_option Elab.async false
set_option linter.all false
set_option maxRecDepth 100000
set_option maxHeartbeats 4000000
/-! RX1: what hands out new tuples (WalksT) as a thing that a for may walk; enumerate of a tuple, zip of a list and a tuple. -/
namespace RX
open PySem PySem.Spec PyProof.Rows
open L2

/-- hands out, at turn i, a new tuple of xs where `gives i H xs`; `tells`: what is known of it -/
def ItW (gives tells : Nat → Hp → List V → Prop) (ends : Nat → Hp → Prop) : It where
  go i H := ∃ xs, gives i H xs
  yld i H v H' := ∃ T xs, v = .ref T ∧ H T = none ∧ H' = upd H T (.tup xs) ∧ tells i H xs
  stop := ends

/-- what an iterator at it must bring: its cells `cs` with the state `st`, and ahead of each turn a walk in the sense of WalksT over cells of `cs` -/
structure Brings (P : Program) (w : World) (K : PySem.W.Frag) (gives tells : Nat → Hp → List V → Prop) (ends : Nat → Hp → Prop) (cs : List Addr) (it : Addr) (st : Nat → Heap → Prop) : Prop where
  own : it ∈ cs
  there : ∀ i h, st i h → ∀ c ∈ cs, ∃ o, h.get? c = some o ∧ ∀ v, o.data ≠ .cell v
  held : ∀ i h h', st i h → (∀ c ∈ cs, ∀ o, h.get? c = some o → h'.get? c = some o) → st i h'
  iters : ∀ (A : Around) i (s : Shared) (Q E : Value → Shared → Prop), st i s.heap → Q (.ref it) s → wpAny (model P w) A (pyIter (.ref it)) Q E s
  turn : ∀ (X : Cx), X.prog = P → X.w = w → X.K = K → X.A.handled = none → ∀ i pins (s : Shared) σ H xs, Inv X pins σ H s → st i s.heap → gives i H xs →
    ∃ fp wr n Pt St Mid, WalksT P w X.A it fp wr n Pt St Mid ∧ i < n ∧ St i s.heap ∧ (∀ c ∈ wr, c ∈ cs) ∧ (∀ h, St (i + 1) h → st (i + 1) h) ∧
      xs.length ≤ sizeLine ∧ tells i H xs ∧ ∀ vals, Pt i vals → Vals xs vals.toList
  last : ∀ (X : Cx), X.prog = P → X.w = w → X.K = K → X.A.handled = none → ∀ i pins (s : Shared) σ H, Inv X pins σ H s → st i s.heap → ends i H →
    ∃ fp wr n Pt St Mid, WalksT P w X.A it fp wr n Pt St Mid ∧ St n s.heap ∧ ∀ c ∈ wr, c ∈ cs
theorem Brings.turnOf {P : Program} {w : World} {K : PySem.W.Frag} {gives tells : Nat → Hp → List V → Prop} {ends : Nat → Hp → Prop} {cs : List Addr} {it : Addr} {st : Nat → Heap → Prop} {elts : List Expr} {k : Nat} {tp : Pos}
    (B : Brings P w K gives tells ends cs it st) : Turn P w K (.Tuple elts k tp) (ItW gives tells ends) cs it st where
  mem := B.own
  obj := B.there
  keep := B.held
  self := B.iters
  item := by
    rintro X rfl rfl rfl hc i pins s σ H E I hf hst ⟨xs, gv⟩
    obtain ⟨fp, wr, n, Pt, St, Mid, W, hi, h0, sub, nxt, hz, tl, hv⟩ := B.turn X rfl rfl rfl (I.ok.hd hc) i pins s σ H xs I hst gv
    have old : ∀ c ∈ cs, c < s.heap.objs.size := fun c q => let ⟨o, e, _⟩ := B.there i _ hst c q; Heap.lt_size e
    refine W.item i s _ _ hi h0 fun T vals h1 t1 pv new tup mid kept => ⟨_, rfl, ?_⟩
    refine W.go _ _ _ i T { s with heap := h1, toks := t1 } _ _ mid fun h2 after kept2 => ?_
    have Tn : H T = none := I.hok.fresh new
    have all : ∀ c o, c ∉ cs → s.heap.get? c = some o → h2.get? c = some o := fun c o q e => kept2 c o (fun z => q (sub c z)) (kept c o (fun z => q (sub c z)) e)
    have tup2 : h2.IsTuple T vals := tup.at fun o e => kept2 T o (W.apart i T h1 mid) e
    have I2 : Inv X pins σ (upd H T (.tup xs)) { s with heap := h2, toks := t1 } := I.turnedNew (ch := cs) all hf new ⟨hz, vals.toList, hv vals pv, tup2⟩
    refine ⟨.ref T, _, I2, rfl, ⟨T, xs, rfl, Tn, rfl, tl⟩, nxt _ after, fun c q => ?_⟩
    rw [upd_ne (Nat.ne_of_lt (Nat.lt_of_lt_of_le (old c q) new))]
    exact (hf c q).1
  done := by
    rintro X rfl rfl rfl hc i pins s σ H E I hf hst en
    obtain ⟨fp, wr, n, Pt, St, Mid, W, h0, sub⟩ := B.last X rfl rfl rfl (I.ok.hd hc) i pins s σ H I hst en
    exact W.done s _ _ h0 fun h1 t1 kept => ⟨rfl, I.turnedL (ch := cs) (fun c o q e => kept c o (fun z => q (sub c z)) e) hf⟩
/-- new cells may turn -/
theorem fresh_cells {X : Cx} {pins : List (Addr × Obj)} {σ : L2.St} {H : Hp} {s : Shared} (I : Inv X pins σ H s) {cs : List Addr} (h : ∀ c ∈ cs, s.heap.objs.size ≤ c) : ∀ c ∈ cs, FpOk X pins H c :=
  fun c q => I.fpOk (h c q) (I.hok.fresh (h c q))

/-! ### enumerate -/
def enGives (K : PySem.W.Frag) (a : Addr) (i : Nat) (H : Hp) (ys : List V) : Prop := ∃ xs x, SqT K H a xs ∧ xs[i]? = some x ∧ ys = [.int (i : Nat), x]
def enTells (K : PySem.W.Frag) (a : Addr) (i : Nat) (H : Hp) (ys : List V) : Prop := ∃ x, ys = [.int (i : Nat), x] ∧ ∀ xs, SqT K H a xs → xs[i]? = some x
def enEnds (K : PySem.W.Frag) (a : Addr) (i : Nat) (H : Hp) : Prop := ∃ xs, SqT K H a xs ∧ xs.length = i
theorem en_brings {P : Program} {w : World} {K : PySem.W.Frag} {a e it : Addr} (d1 : e ≠ it) (d2 : e ≠ a) (d3 : a ≠ it) :
    Brings P w K (enGives K a) (enTells K a) (enEnds K a) [e, it] e (fun i h => (∃ old, IsEnum h e it (i : Int) old) ∧ h.IsTupleIter it a i) where
  own := List.mem_cons_self
  there := by
    rintro i h ⟨⟨old, p⟩, o, q, _, dt⟩ c hc
    rcases List.mem_cons.mp hc with rfl | hc
    · exact ⟨_, p, fun v z => by cases z⟩
    · cases List.mem_singleton.mp hc
      exact ⟨o, q, fun v z => by rw [dt] at z; cases z⟩
  held := fun i h h' ⟨⟨old, p⟩, q⟩ kp => ⟨⟨old, kp e List.mem_cons_self _ p⟩, q.at fun o z => kp it (List.mem_cons_of_mem _ List.mem_cons_self) o z⟩
  iters := fun A i s Q E ⟨⟨_, p⟩, _⟩ hQ => wpAny_pyIter_enum p hQ
  turn := by
    rintro X rfl rfl rfl hh i pins s σ H ys I ⟨p, q⟩ ⟨xs, x, sq, ex, rfl⟩
    obtain ⟨us, rv, tp, lz⟩ := I.tuple sq
    obtain ⟨u, eu, ru⟩ := rv.get ex
    have li : i < xs.length := (List.getElem?_eq_some_iff.mp ex).1
    have D := Draws.tuple (prog := X.prog) (w := X.w) (A := X.A.in1) hh it a d3 us.toArray
    refine ⟨_, _, _, _, _, _, WalksT.enumerateD D e d1 (by simp [d1, d2]) (by simp), ?_, ⟨p, q, tp⟩, fun c z => z, fun h z => ⟨z.1, z.2.1⟩, by rw [sizeLine_eq]; exact Nat.le_of_ble_eq_true rfl, ⟨x, rfl, fun ys sy => by rw [I.tuple_inj sy sq]; exact ex⟩, ?_⟩
    · rw [List.size_toArray, ← rv.length]; exact li
    · rintro vals ⟨t, y, hy, rfl⟩
      rw [List.getElem?_toArray, eu] at hy
      cases hy
      exact .cons ⟨t, rfl⟩ (.cons ru .nil)
  last := by
    rintro X rfl rfl rfl hh i pins s σ H I ⟨p, q⟩ ⟨xs, sq, rfl⟩
    obtain ⟨us, rv, tp, lz⟩ := I.tuple sq
    have D := Draws.tuple (prog := X.prog) (w := X.w) (A := X.A.in1) hh it a d3 us.toArray
    have ez : us.toArray.size = xs.length := by rw [List.size_toArray, ← rv.length]
    exact ⟨_, _, _, _, _, _, WalksT.enumerateD D e d1 (by simp [d1, d2]) (by simp), by rw [ez]; exact ⟨p, q, tp⟩, fun c z => z⟩
/-- enumerate's two cells, whatever is numbered -/
theorem enum_makes {v : Value} {o : Obj} {G : Heap → Prop} (B : Begins v o G) :
    Meets (Builtin.«enumerate.__new__» ⟨[.type "enumerate", v], []⟩) (fun _ R s => G s.heap ∧ R (.ok (.ret (.ref (s.heap.push o).objs.size)))
      { s with heap := (s.heap.push o).push { cls := .type "enumerate", data := .fields #[.none, .bool false, .ref s.heap.objs.size, rawInt 0, .none, .none] } }) :=
  .of_wp fun prog w A R ⟨hp, g, d, tk, os⟩ ⟨hG, fin⟩ => by
    have sub := sub_enumerate
    have begin1 : ∀ {A' : Around} {E Q : Value → Shared → Prop}, Q (.ref hp.objs.size) ⟨hp.push o, g, d, tk, os⟩ → wpAny (model prog w) A' (pyIter v) Q E ⟨hp, g, d, tk, os⟩ := fun q => B.iter prog w _ _ _ _ hG q
    wp_walk using begin1
    refine wpAny_stack_any fun stk => wpAny_pure ?_
    split
    · rename_i c _ _ _ _ _
      cases (c == Value.type "enumerate") <;> (wp_walk using begin1; exact ⟨_, rfl, fin⟩)
    · wp_walk using begin1
      exact ⟨_, rfl, fin⟩
theorem call_enum {prog : Program} {w : World} {A : Around} {E Q : Value → Shared → Prop} {s : Shared} {v : Value} {o : Obj} {G : Heap → Prop} (B : Begins v o G) (hG : G s.heap)
    (fin : ∀ h', IsEnum h' (s.heap.objs.size + 1) s.heap.objs.size 0 .none → h'.get? s.heap.objs.size = some o → (∀ c u, s.heap.get? c = some u → h'.get? c = some u) → Q (.ref (s.heap.objs.size + 1)) { s with heap := h' }) :
    wpAny (model prog w) A (call (.type "enumerate") [v]) Q E s := by
  refine callType_new F.called_enumerate (by decide) (F.typeCall_enumerate_1 _) (F.newCall_enumerate_1 _) (fun ob => F.args_object_init_2 ob _) F.entry_enumerate_new (enum_makes B) ⟨hG, ?_⟩
  have z1 : (s.heap.push o).objs.size = s.heap.objs.size + 1 := Heap.size_push ..
  have cell : IsEnum ((s.heap.push o).push { cls := .type "enumerate", data := .fields #[.none, .bool false, .ref s.heap.objs.size, rawInt 0, .none, .none] }) (s.heap.push o).objs.size s.heap.objs.size 0 .none := Heap.get?_push_size _ rfl
  rw [z1] at cell ⊢
  exact ⟨⟨_, cell, rfl⟩, fin _ cell (Heap.get?_push_of_some _ (Heap.get?_push_size _ B.free)) fun c u e => Heap.get?_push_of_some _ (Heap.get?_push_of_some _ e)⟩
def iEnumT (K : PySem.W.Frag) (te : TE) : TI := fun σ H R => te σ H fun v H1 => ∃ a xs, v = .ref a ∧ SqT K H1 a xs ∧ R (ItW (enGives K a) (enTells K a) (enEnds K a)) H1
section
variable {X : Cx} {p pos tpos : Pos} {elts : List Expr} {kk : Nat}
theorem pi_enumT {e : Expr} {te : TE} (hg : Gl X "enumerate") (hm : X.mg "enumerate" = none) (he : PE X e te) (na : starEach [e] X.env = (false, eval e X.env) :: starEach [] X.env) :
    PI X (.Tuple elts kk tpos) (.Call (.Name "enumerate" p) [e] [] pos) (iEnumT X.K te) := ⟨fun pins s σ H R I h =>
  Call_ (ld_blt I hg hm boot_enumerate (PyProof.Rows.callWith_type1 (one_arg he I h (fun v s2 x H2 I2 r ⟨a, xs, ea, sq, q⟩ => by
    subst ea
    cases r
    obtain ⟨us, rv, tp, lz⟩ := I2.tuple sq
    have la := tp.lt
    refine call_enum (begins_tuple a us.toArray) tp fun h' cell itc kept => wpAny_pyIter_enum cell ?_
    refine ⟨_, [s2.heap.objs.size + 1, s2.heap.objs.size], _, _, H2, rfl, I2.kept (t' := s2.toks) kept, (en_brings (Nat.succ_ne_self _) (Nat.ne_of_gt (Nat.lt_succ_of_lt la)) (Nat.ne_of_lt la)).turnOf, ⟨⟨.none, cell⟩, _, itc, rfl, rfl⟩, fresh_cells I2 fun c hc => ?_, q⟩
    rcases List.mem_cons.mp hc with rfl | hc
    · exact Nat.le_succ _
    · cases List.mem_singleton.mp hc; exact Nat.le_refl _) na) na rfl))⟩
end

/-! ### zip of a list and a tuple -/
def zpGives (K : PySem.W.Frag) (a b : Addr) (i : Nat) (H : Hp) (ys : List V) : Prop := ∃ xs zs x z, SqL K H a xs ∧ SqT K H b zs ∧ xs[i]? = some x ∧ zs[i]? = some z ∧ ys = [x, z]
def zpTells (K : PySem.W.Frag) (a b : Addr) (i : Nat) (H : Hp) (ys : List V) : Prop := ∃ x z, ys = [x, z] ∧ (∀ xs, SqL K H a xs → xs[i]? = some x) ∧ ∀ zs, SqT K H b zs → zs[i]? = some z
def zpEnds (K : PySem.W.Frag) (a b : Addr) (i : Nat) (H : Hp) : Prop := ∃ xs zs, SqL K H a xs ∧ SqT K H b zs ∧ min xs.length zs.length = i
theorem zp_brings {P : Program} {w : World} {K : PySem.W.Frag} {a b z ti to i1 i2 : Addr} (S : ZipSep2 z ti to i1 i2 [i1, a] [i2, b]) (d1 : a ≠ i1) (d2 : b ≠ i2) :
    Brings P w K (zpGives K a b) (zpTells K a b) (zpEnds K a b) [z, ti, to, i1, i2] z (fun i h => IsZip h z ti to .none ∧ IsTupOf2 h ti (.ref i1) (.ref i2) ∧ (∃ x y, IsTupOf2 h to x y) ∧ h.IsListIter i1 a i ∧ h.IsTupleIter i2 b i) where
  own := List.mem_cons_self
  there := by
    rintro i h ⟨q1, q2, ⟨x, y, q3⟩, ⟨o4, q4, _, d4⟩, o5, q5, _, d5⟩ c hc
    simp only [List.mem_cons, List.not_mem_nil, or_false] at hc
    obtain rfl | rfl | rfl | rfl | rfl := hc
    · exact ⟨_, q1, fun v n => by cases n⟩
    · exact ⟨_, q2, fun v n => by cases n⟩
    · exact ⟨_, q3, fun v n => by cases n⟩
    · exact ⟨o4, q4, fun v n => by rw [d4] at n; cases n⟩
    · exact ⟨o5, q5, fun v n => by rw [d5] at n; cases n⟩
  held := fun i h h' ⟨q1, q2, ⟨x, y, q3⟩, q4, q5⟩ kp =>
    ⟨kp _ (by simp) _ q1, kp _ (by simp) _ q2, ⟨x, y, kp _ (by simp) _ q3⟩, q4.at fun o n => kp i1 (by simp) o n, q5.at fun o n => kp i2 (by simp) o n⟩
  iters := fun A i s Q E st hQ => wpAny_pyIter_zip st.1 hQ
  turn := by
    rintro X rfl rfl rfl hh i pins s σ H ys I ⟨q1, q2, q3, q4, q5⟩ ⟨xs, zs, x, y, sl, sq, ex, ey, rfl⟩
    obtain ⟨us, rv, tl, _⟩ := I.list sl
    obtain ⟨ws, rw', tt, _⟩ := I.tuple sq
    obtain ⟨u, eu, ru⟩ := rv.get ex
    obtain ⟨w, ew, rw2⟩ := rw'.get ey
    have l1 : i < xs.length := (List.getElem?_eq_some_iff.mp ex).1
    have l2 : i < zs.length := (List.getElem?_eq_some_iff.mp ey).1
    have D1 := Draws.list (prog := X.prog) (w := X.w) (A := X.A.in1) hh i1 a d1 us.toArray
    have D2 := Draws.tuple (prog := X.prog) (w := X.w) (A := X.A.in1) hh i2 b d2 ws.toArray
    refine ⟨_, _, _, _, _, _, WalksT.zipD2 S D1 D2, ?_, ⟨q1, q2, q3, ⟨q4, tl.isList⟩, q5, tt⟩, fun c n => ?_, fun h n => ⟨n.1, n.2.1, n.2.2.1, n.2.2.2.1.1, n.2.2.2.2.1⟩, by rw [sizeLine_eq]; exact Nat.le_of_ble_eq_true rfl, ⟨x, y, rfl, fun ys sy => by rw [I.list_inj sy sl]; exact ex, fun ys sy => by rw [I.tuple_inj sy sq]; exact ey⟩, ?_⟩
    · rw [List.size_toArray, List.size_toArray, ← rv.length, ← rw'.length]; omega
    · simp only [List.mem_cons, List.not_mem_nil, or_false] at n ⊢
      rcases n with n | n | n | n <;> simp [n]
    · rintro vals ⟨v1, v2, p1, p2, rfl⟩
      rw [List.getElem?_toArray, eu] at p1
      rw [List.getElem?_toArray, ew] at p2
      cases p1; cases p2
      exact .cons ru (.cons rw2 .nil)
  last := by
    rintro X rfl rfl rfl hh i pins s σ H I ⟨q1, q2, q3, q4, q5⟩ ⟨xs, zs, sl, sq, rfl⟩
    obtain ⟨us, rv, tl, _⟩ := I.list sl
    obtain ⟨ws, rw', tt, _⟩ := I.tuple sq
    have D1 := Draws.list (prog := X.prog) (w := X.w) (A := X.A.in1) hh i1 a d1 us.toArray
    have D2 := Draws.tuple (prog := X.prog) (w := X.w) (A := X.A.in1) hh i2 b d2 ws.toArray
    have ez : min us.toArray.size ws.toArray.size = min xs.length zs.length := by rw [List.size_toArray, List.size_toArray, ← rv.length, ← rw'.length]
    refine ⟨_, _, _, _, _, _, WalksT.zipD2 S D1 D2, by rw [ez]; exact ⟨q1, q2, q3, ⟨q4, tl.isList⟩, q5, tt⟩, fun c n => ?_⟩
    simp only [List.mem_cons, List.not_mem_nil, or_false] at n ⊢
    rcases n with n | n | n | n <;> simp [n]
def iZipM (K : PySem.W.Frag) (t : TA) : TI := fun σ H R => t σ H fun vs H2 => ∃ a b xs zs, vs = [.ref a, .ref b] ∧ SqL K H2 a xs ∧ SqT K H2 b zs ∧ R (ItW (zpGives K a b) (zpTells K a b) (zpEnds K a b)) H2
section
variable {X : Cx} {p pos tpos : Pos} {elts : List Expr} {kk : Nat}
theorem pi_zipM {e e2 : Expr} {t : TA} (hg : Gl X "zip") (hm : X.mg "zip" = none) (ha : PA X [e, e2] t)
    (n1 : starEach [e, e2] X.env = (false, eval e X.env) :: starEach [e2] X.env) (pl : (backTo pos (starEach [e2] X.env)).any (·.1) = false) :
    PI X (.Tuple elts kk tpos) (.Call (.Name "zip" p) [e, e2] [] pos) (iZipM X.K t) := ⟨fun pins s σ H R I h =>
  Call_ (ld_blt I hg hm PyProof.Rows.boot_zip (PyProof.Rows.callWith_type1 (thn (ha.run pos pins s σ H _ I h) fun us s2 ⟨vs, H2, I2, r, a, b, xs, zs, ev, sl, sq, q⟩ => by
    subst ev
    obtain ⟨v1, v2, rfl, r1, r2⟩ := vals2 r
    cases r1; cases r2
    obtain ⟨ws, rv, tl, _⟩ := I2.list sl
    obtain ⟨ys, rv2, tt, _⟩ := I2.tuple sq
    have la := tl.lt
    have lb := tt.lt
    refine zip_begins2 (begins_list a ws.toArray) (begins_tuple b ys.toArray) tl.isList tt fun h' c1 c2 c3 c4 c5 _ kept => wpAny_pyIter_zip c1 ?_
    have sep := zip_sep2 (N := s2.heap.objs.size) (fp1 := [a]) (fp2 := [b]) (fun c n => by cases List.mem_singleton.mp n; exact la) (fun c n => by cases List.mem_singleton.mp n; exact lb)
    refine ⟨_, [s2.heap.objs.size + 4, s2.heap.objs.size + 2, s2.heap.objs.size + 3, s2.heap.objs.size, s2.heap.objs.size + 1], _, _, H2, rfl, I2.kept (t' := s2.toks) kept, (zp_brings sep (Nat.ne_of_lt la) (Nat.ne_of_lt (Nat.lt_succ_of_lt lb))).turnOf, ⟨c1, c2, ⟨_, _, c3⟩, ⟨_, c4, rfl, rfl⟩, _, c5, rfl, rfl⟩, fresh_cells I2 fun c n => ?_, q⟩
    simp only [List.mem_cons, List.not_mem_nil, or_false] at n
    rcases n with n | n | n | n | n <;> (rw [n]; first | exact Nat.le_refl _ | exact Nat.le_add_right _ _)) n1 pl))⟩
end
end RX

namespace DL
open PySem PySem.Spec PyProof.Rows L2
/-- (0, item), (1, item) .. -/
def numbered (ps : List PyData) : List D := ps.zipIdx.map fun (z : PyData × Nat) => D.dat (.tuple [.int (z.2 : Int), z.1])
def iEnumD (te : DE) : DI := fun δ M Q => te δ M fun d M1 => match d with
  | .dat (.tuple ps) => Q (numbered ps) (fun _ => True) M1
  | _ => False
def paired (ps qs : List PyData) : List D := (ps.zip qs).map fun z => D.dat (.tuple [z.1, z.2])
def iZipD (ta tb : DE) : DI := fun δ M Q => ta δ M fun d M1 => tb δ M1 fun d2 M2 => match d, d2 with
  | .dat (.list ps), .dat (.tuple qs) => Q (paired ps qs) (fun _ => True) M2
  | _, _ => False
theorem new_pair {S : Hid} {M : Mp} {H : Hp} {T : Addr} {x y : V} {p q : PyData} (m : RepM S M H) (hT : H T = none) (hx : Dq (Imm M S H) x p) (hy : Dq (Imm M S H) y q) :
    Grow M H M (upd H T (.tup [x, y])) ∧ RepM S M (upd H T (.tup [x, y])) ∧ DV (Imm M S (upd H T (.tup [x, y]))) (.ref T) (.dat (.tuple [p, q])) := by
  obtain ⟨m1, g1, i1⟩ := m.new hT (.tup [x, y])
  exact ⟨g1, m1, dv_tup_mk i1 (.cons (Dq_mono (g1.imm S) _ _ hx) (.cons (Dq_mono (g1.imm S) _ _ hy) .nil))⟩
section
variable {X : Cx} {p pos tpos : Pos} {elts : List Expr} {kk : Nat}
theorem qi_enum {e : Expr} {te : DE} (hg : Gl X "enumerate") (hm : X.mg "enumerate" = none) (he : QE X e te) (na : starEach [e] X.env = (false, eval e X.env) :: starEach [] X.env := by rfl) :
    QI X (.Tuple elts kk tpos) (.Call (.Name "enumerate" p) [e] [] pos) (iEnumD te) := PI_imp (RX.pi_enumT hg hm he na) fun σ H R ⟨S, δ, M, Qi, r, h, k⟩ => ⟨S, δ, M, _, r, h, fun d M1 v H1 g1 m1 r1 q1 => by
    revert q1
    dsimp only
    split
    · rename_i ps
      intro q1
      obtain ⟨a, xs, rfl, ha, da⟩ := dv_tup r1
      refine ⟨a, xs, rfl, .of (imm_sub _ _ ha), k _ _ M1 H1 _ g1 m1 (fun S' i M2 H2 base m2 _ => ?_) q1⟩
      have hq : SqT X.K H2 a xs := .of (imm_sub _ _ (base _ _ ha))
      refine ⟨fun d' ed => ?_, fun hl => ⟨xs, hq, by rw [da.length, ← hl]; unfold numbered; rw [List.length_map, List.length_zipIdx]⟩⟩
      unfold numbered at ed
      rw [List.getElem?_map, List.getElem?_zipIdx] at ed
      cases q : ps[i]? with
      | none => rw [q] at ed; cases ed
      | some pd =>
        rw [q] at ed; cases ed
        obtain ⟨x, ex, rx⟩ := DqAll_get da q
        refine ⟨⟨_, xs, x, hq, ex, rfl⟩, fun y H' ⟨T, zs, e1, hT, e2, x', e3, e4⟩ => ?_⟩
        subst e1 e2 e3
        have t1 := e4 xs hq
        rw [ex] at t1; cases t1
        rw [Nat.zero_add]
        exact new_pair m2 hT (.int _) (Dq_mono base _ _ rx)
    · exact False.elim⟩
theorem qi_zip {e e2 : Expr} {ta tb : DE} (hg : Gl X "zip") (hm : X.mg "zip" = none) (ha : QE X e ta) (hb : QE X e2 tb)
    (n1 : starEach [e, e2] X.env = (false, eval e X.env) :: starEach [e2] X.env := by rfl) (n2 : starEach [e2] X.env = (false, eval e2 X.env) :: starEach [] X.env := by rfl) (pl : (backTo pos (starEach [e2] X.env)).any (·.1) = false := by rfl) :
    QI X (.Tuple elts kk tpos) (.Call (.Name "zip" p) [e, e2] [] pos) (iZipD ta tb) := PI_imp (RX.pi_zipM hg hm (pa_cons ha (pa_cons hb pa_nil n2) n1) n1 pl) fun σ H R ⟨S, δ, M, Qi, r, h, k⟩ =>
  ⟨S, δ, M, _, r, h, fun d M1 v H1 g1 m1 r1 q1 => ⟨S, δ, M1, _, r.grow g1 m1, q1, fun d2 M2 v2 H2 g2 m2 r2 q2 => by
    revert q2
    dsimp only
    split
    · rename_i ps qs
      intro q2
      obtain ⟨a, xs, rfl, ha, da⟩ := dv_lst (r1.mono (g2.imm S))
      obtain ⟨b, ys, rfl, hb, db⟩ := dv_tup r2
      refine ⟨a, b, xs, ys, rfl, .of (imm_sub _ _ ha), .of (imm_sub _ _ hb), k _ _ M2 H2 _ (g1.trans g2) m2 (fun S' i M3 H3 base m3 _ => ?_) q2⟩
      have hq : SqL X.K H3 a xs := .of (imm_sub _ _ (base _ _ ha))
      have hq2 : SqT X.K H3 b ys := .of (imm_sub _ _ (base _ _ hb))
      have l1 := da.length
      have l2 := db.length
      refine ⟨fun d' ed => ?_, fun hl => ?_⟩
      · unfold paired at ed
        rw [List.getElem?_map] at ed
        cases q : (ps.zip qs)[i]? with
        | none => rw [q] at ed; cases ed
        | some z =>
          rw [q] at ed; cases ed
          obtain ⟨e1, e2⟩ := List.getElem?_zip_eq_some.mp q
          obtain ⟨x, ex, rx⟩ := DqAll_get da e1
          obtain ⟨y, ey, ry⟩ := DqAll_get db e2
          refine ⟨⟨_, xs, ys, x, y, hq, hq2, ex, ey, rfl⟩, fun y' H' ⟨T, zs, e1, hT, e2, x', y2, e3, e4, e5⟩ => ?_⟩
          subst e1 e2 e3
          have t1 := e4 xs hq
          rw [ex] at t1; cases t1
          have t2 := e5 ys hq2
          rw [ey] at t2; cases t2
          exact new_pair m3 hT (Dq_mono base _ _ rx) (Dq_mono base _ _ ry)
      · unfold paired at hl
        rw [List.length_map, List.length_zip] at hl
        exact ⟨xs, ys, hq, hq2, by rw [l1, l2]; exact hl⟩
    · exact False.elim⟩⟩
end
end DL
set_option Elab.async false
set_option linter.all false
set_option maxRecDepth 100000
set_option maxHeartbeats 4000000
/-! RX2: min of a list (of two values) whose items are compared by what stands in the heap. -/
namespace RX
open PySem PySem.Spec PyProof.Rows
open L2

section
variable {prog : Program} {w : World} {A : Around} {R : Result → Shared → Prop} {I : Addr} {fp wr : List Addr} {n : Nat} {P : Nat → Value → Prop} {St : Nat → Heap → Prop}
/-- two items are compared where G stands -/
def Cmp (prog : Program) (w : World) (A : Around) (G : Heap → Prop) (P : Nat → Value → Prop) (bt : Nat → Nat → Bool) : Prop :=
  ∀ i j u v (s : Shared) (Q E : Value → Shared → Prop), G s.heap → P i u → P j v → Q (.bool (bt i j)) s → wpAny (model prog w) A (richCompare .Lt u v) Q E s
/-- what a write at the walk's cells and at S leaves standing -/
def Firm (G : Heap → Prop) (wr : List Addr) (S : Addr) : Prop := ∀ h h', G h → (∀ b o, b ∉ wr → b ≠ S → h.get? b = some o → h'.get? b = some o) → G h'
theorem min_turns (W : Walks prog w A.in1 I fp wr n P St) {G : Heap → Prop} {bt : Nat → Nat → Bool} (cmp : Cmp prog w A.in1 G P bt) {S : Addr} (hS : S ∉ fp) (firm : Firm G wr S) :
    ∀ (k j : Nat) (s : Shared) (best : Value) (c : Nat), n = j + 1 + k → St (j + 1) s.heap → G s.heap → P (argBest bt j) best →
      s.heap.get? S = some { cls := .type "list", dict := none, data := .seq #[best, best] c, slots := #[] } →
      (∀ v h' tk, P (argBest bt (n - 1)) v → (∀ b o, b ∉ wr → b ≠ S → s.heap.get? b = some o → h'.get? b = some o) → R (.ok (.ret v)) { s with heap := h', toks := tk }) →
      codeAny (model prog w) A (.builtin "min.loop" ⟨[.ref I, .none, .ref S], []⟩) R s := by
  have hw : S ∉ wr := fun z => hS (W.sub _ z)
  have nm : (toString "min" ++ toString ".loop" : String) = "min.loop" := by decide
  intro k
  induction k with
  | zero =>
    intro j s best c en st g pb cell fin
    refine codeAny_builtin F.entry_min_loop ?_
    rw [Around.under_plainId F.plain_min_loop]
    show wpAny (model prog w) A.in1 (bind (seqItems? (.ref S)) _) _ _ s
    refine wpAny_bind (wpAny_seqItems cell rfl ?_)
    show wpAny (model prog w) A.in1 (bind (tryCatch (pyNext (.ref I)) _) _) _ _ s
    refine wpAny_bind (wpAny_tryCatch (W.done s _ _ (by rw [en]; exact st) fun h1 t1 kp => ?_))
    have cell1 := kp S _ hw cell
    show wpAny (model prog w) A.in1 (bind (updateSeq S fun _ => #[]) _) _ _ _
    refine wpAny_bind (wpAny_updateSeq cell1 rfl (wpAny_bind (wpAny_letGo (wpAny_pure ?_))))
    exact fin best _ t1 (by rw [en]; exact pb) fun b o n1 n2 e => (Heap.get?_update_other _ _ (Ne.symm n2)).trans (kp b o n1 e)
  | succ k ih =>
    intro j s best c en st g pb cell fin
    refine codeAny_builtin F.entry_min_loop ?_
    rw [Around.under_plainId F.plain_min_loop]
    show wpAny (model prog w) A.in1 (bind (seqItems? (.ref S)) _) _ _ s
    refine wpAny_bind (wpAny_seqItems cell rfl ?_)
    show wpAny (model prog w) A.in1 (bind (tryCatch (pyNext (.ref I)) _) _) _ _ s
    refine wpAny_bind (wpAny_tryCatch (W.item (j + 1) s _ _ (by omega) st fun v h1 t1 pv st1 kp => ?_))
    have cell1 := kp S _ hw cell
    have g1 : G h1 := firm _ _ g fun b o n1 _ e => kp b o n1 e
    show wpAny (model prog w) A.in1 (bind (tryCatch (holding [v, v] (bind (richCompare .Lt v best) _)) _) _) _ _ _
    refine wpAny_bind (wpAny_tryCatch (wpAny_holding (wpAny_bind (cmp (j + 1) (argBest bt j) v best _ _ _ g1 pv pb ?_))))
    refine wpAny_bind (wpAny_holding (wpAny_truthy_bool ?_))
    refine wpAny_bind (wpAny_letGo (wpAny_pure ?_))
    cases hb : bt (j + 1) (argBest bt j) with
    | true =>
      simp only [if_true]
      refine wpAny_bind (wpAny_updateSeq cell1 rfl (wpAny_bind (wpAny_letGo ?_)))
      rw [nm]
      have up : ∀ b o, b ≠ S → h1.get? b = some o → (h1.update S (Obj.mapSeq fun _ => #[v, v])).get? b = some o := fun b o z e => (Heap.get?_update_other _ _ (Ne.symm z)).trans e
      refine wpAny_pure ⟨plainId_quiet F.plain_min_loop _, ih (j + 1) _ v _ (by omega) (W.frame _ _ _ st1 fun b q o e => up b o (fun z => hS (z ▸ q)) e) (firm _ _ g1 fun b o _ n2 e => up b o n2 e)
        (by simp only [argBest, hb, if_true]; exact pv) (Heap.get?_update_self _ cell1 rfl) fun v2 h2 t2 p2 kp2 => ?_⟩
      exact fin v2 h2 t2 p2 fun b o n1 n2 e => kp2 b o n1 n2 (up b o n2 (kp b o n1 e))
    | false =>
      simp only [Bool.false_eq_true, if_false]
      refine wpAny_bind (wpAny_letGo ?_)
      rw [nm]
      refine wpAny_pure ⟨plainId_quiet F.plain_min_loop _, ih (j + 1) _ best c (by omega) st1 g1 (by simp only [argBest, hb, Bool.false_eq_true, if_false]; exact pb) cell1 fun v2 h2 t2 p2 kp2 => ?_⟩
      exact fin v2 h2 t2 p2 fun b o n1 n2 e => kp2 b o n1 n2 (kp b o n1 e)
theorem min_first (W : Walks prog w A.in1 I fp wr n P St) {G : Heap → Prop} {bt : Nat → Nat → Bool} (cmp : Cmp prog w A.in1 G P bt) {S : Addr} (hS : S ∉ fp) (firm : Firm G wr S) (hn : 0 < n) {s : Shared} {c : Nat} (st : St 0 s.heap) (g : G s.heap)
    (cell : s.heap.get? S = some { cls := .type "list", dict := none, data := .seq #[] c, slots := #[] })
    (fin : ∀ v h' tk, P (argBest bt (n - 1)) v → (∀ b o, b ∉ wr → b ≠ S → s.heap.get? b = some o → h'.get? b = some o) → R (.ok (.ret v)) { s with heap := h', toks := tk }) :
    codeAny (model prog w) A (.builtin "min.loop" ⟨[.ref I, .none, .ref S], []⟩) R s := by
  have hw : S ∉ wr := fun z => hS (W.sub _ z)
  have nm : (toString "min" ++ toString ".loop" : String) = "min.loop" := by decide
  refine codeAny_builtin F.entry_min_loop ?_
  rw [Around.under_plainId F.plain_min_loop]
  show wpAny (model prog w) A.in1 (bind (seqItems? (.ref S)) _) _ _ s
  refine wpAny_bind (wpAny_seqItems cell rfl ?_)
  show wpAny (model prog w) A.in1 (bind (tryCatch (pyNext (.ref I)) _) _) _ _ s
  refine wpAny_bind (wpAny_tryCatch (W.item 0 s _ _ hn st fun v h1 t1 pv st1 kp => ?_))
  have cell1 := kp S _ hw cell
  have up : ∀ b o, b ≠ S → h1.get? b = some o → (h1.update S (Obj.mapSeq fun _ => #[v, v])).get? b = some o := fun b o z e => (Heap.get?_update_other _ _ (Ne.symm z)).trans e
  show wpAny (model prog w) A.in1 (bind (updateSeq S fun _ => #[v, v]) _) _ _ _
  refine wpAny_bind (wpAny_updateSeq cell1 rfl ?_)
  rw [nm]
  refine wpAny_pure ⟨plainId_quiet F.plain_min_loop _, min_turns W cmp hS firm (n - 1) 0 _ v _ (by omega) (W.frame _ _ _ st1 fun b q o e => up b o (fun z => hS (z ▸ q)) e) (firm _ _ g fun b o n1 n2 e => up b o n2 (kp b o n1 e)) pv (Heap.get?_update_self _ cell1 rfl) fun v2 h2 t2 p2 kp2 => ?_⟩
  exact fin v2 h2 t2 p2 fun b o n1 n2 e => kp2 b o n1 n2 (up b o n2 (kp b o n1 e))
end
section
variable {prog : Program} {w : World} {A : Around} {E : Value → Shared → Prop} {s : Shared}
/-- min(x): x is walked, G stands through it -/
theorem call_min {x : Value} {Q : Value → Shared → Prop}
    (h : wpAny (model prog w) A.in1 (pyIter x) (fun it s2 => ∃ I fp wr n P St bt G, it = .ref I ∧ Walks prog w A.in1 I fp wr n P St ∧ St 0 s2.heap ∧ (∀ b ∈ fp, b < s2.heap.objs.size) ∧ 0 < n ∧ Cmp prog w A.in1 G P bt ∧ G s2.heap ∧ (∀ S, s2.heap.objs.size ≤ S → Firm G wr S) ∧
      ∀ v h' tk, P (argBest bt (n - 1)) v → (∀ b o, b ∉ wr → s2.heap.get? b = some o → h'.get? b = some o) → Q v { s2 with heap := h', toks := tk }) E s) :
    wpAny (model prog w) A (call (.builtin "min") [x]) Q E s := by
  have nm : (toString "min" ++ toString ".loop" : String) = "min.loop" := by decide
  refine call_function_tree F.kind_min F.plain_min F.entry_min (F.args_min1 _) ?_
  show wpAny (model prog w) A.in1 (bind (Builtin.Builtins.bindParams "min" ["key", "default"] 0 ⟨[], []⟩) _) _ _ s
  refine wpAny_bind (wpAny_of_eq (show Builtin.Builtins.bindParams "min" ["key", "default"] 0 ⟨[], []⟩ = pure [none, none] from rfl) (wpAny_bind (wpAny_pure ?_)))
  refine wpAny_bind (wpAny_mono h (fun it s2 q => ?_) fun _ _ e => e)
  obtain ⟨I, fp, wr, n, P, St, bt, G, rfl, W, st, low, hn, cmp, g, firm, fin⟩ := q
  refine wpAny_bind (wpAny_newObj_type ?_)
  have hS : s2.heap.objs.size ∉ fp := fun z => Nat.lt_irrefl _ (low _ z)
  rw [nm]
  have up : ∀ b o, s2.heap.get? b = some o → (s2.heap.push { cls := .type "list", data := .seq (#[] : Array Value) }).get? b = some o := fun b o e => Heap.get?_push_of_some _ e
  refine wpAny_pure ⟨plainId_quiet F.plain_min_loop _, min_first W cmp hS (firm _ (Nat.le_refl _)) hn (W.frame _ _ _ st fun b _ o e => up b o e) (firm _ (Nat.le_refl _) _ _ g fun b o _ _ e => up b o e) (Heap.get?_push_size _ rfl) fun v h1 t1 pv kp => ?_⟩
  exact fin v h1 t1 pv fun b o n1 e => kp b o n1 (Nat.ne_of_lt (Heap.lt_size e)) (up b o e)
/-- min(a, b) -/
theorem call_min2 {a b : Value} {Q : Value → Shared → Prop}
    (h : wpAny (model prog w) A.in1 (pyIter (.ref s.heap.objs.size)) (fun it s2 => ∃ I fp wr n P St bt G, it = .ref I ∧ Walks prog w A.in1 I fp wr n P St ∧ St 0 s2.heap ∧ (∀ b ∈ fp, b < s2.heap.objs.size) ∧ 0 < n ∧ Cmp prog w A.in1 G P bt ∧ G s2.heap ∧ (∀ S, s2.heap.objs.size ≤ S → Firm G wr S) ∧
      ∀ v h' tk, P (argBest bt (n - 1)) v → (∀ b o, b ∉ wr → s2.heap.get? b = some o → h'.get? b = some o) → Q v { s2 with heap := h', toks := tk }) E { s with heap := s.heap.push { cls := .type "tuple", data := .seq #[a, b] } }) :
    wpAny (model prog w) A (call (.builtin "min") [a, b]) Q E s := by
  have nm : (toString "min" ++ toString ".loop" : String) = "min.loop" := by decide
  refine call_function_tree F.kind_min F.plain_min F.entry_min (F.args_min2 _ _) ?_
  show wpAny (model prog w) A.in1 (bind (Builtin.Builtins.bindParams "min" ["key", "default"] 0 ⟨[], []⟩) _) _ _ s
  refine wpAny_bind (wpAny_of_eq (show Builtin.Builtins.bindParams "min" ["key", "default"] 0 ⟨[], []⟩ = pure [none, none] from rfl) ?_)
  show wpAny (model prog w) A.in1 (bind (newTuple [a, b]) _) _ _ s
  refine wpAny_bind (wpAny_newObj_type (wpAny_bind (wpAny_mono h (fun it s2 q => ?_) fun _ _ e => e)))
  obtain ⟨I, fp, wr, n, P, St, bt, G, rfl, W, st, low, hn, cmp, g, firm, fin⟩ := q
  refine wpAny_bind (wpAny_newObj_type ?_)
  have hS : s2.heap.objs.size ∉ fp := fun z => Nat.lt_irrefl _ (low _ z)
  rw [nm]
  have up : ∀ b o, s2.heap.get? b = some o → (s2.heap.push { cls := .type "list", data := .seq (#[] : Array Value) }).get? b = some o := fun b o e => Heap.get?_push_of_some _ e
  refine wpAny_pure ⟨plainId_quiet F.plain_min_loop _, min_first W cmp hS (firm _ (Nat.le_refl _)) hn (W.frame _ _ _ st fun b _ o e => up b o e) (firm _ (Nat.le_refl _) _ _ g fun b o _ _ e => up b o e) (Heap.get?_push_size _ rfl) fun v h1 t1 pv kp => ?_⟩
  exact fin v h1 t1 pv fun b o n1 e => kp b o n1 (Nat.ne_of_lt (Heap.lt_size e)) (up b o e)
end
theorem argBest_le (bt : Nat → Nat → Bool) : ∀ m, argBest bt m ≤ m
  | 0 => Nat.le_refl _
  | m + 1 => by
    unfold argBest
    split
    · exact Nat.le_refl _
    · exact Nat.le_succ_of_le (argBest_le bt m)
theorem argBest_least {bt : Nat → Nat → Bool} (irr : ∀ i, bt i i = false) (tr : ∀ i j k, bt i j = false → bt j k = false → bt i k = false) (asy : ∀ i j, bt i j = true → bt j i = false) : ∀ m j, j ≤ m → bt j (argBest bt m) = false
  | 0, j, h => by
    have : j = 0 := by omega
    subst this
    exact irr 0
  | m + 1, j, h => by
    have ih := fun q => argBest_least irr tr asy m j q
    unfold argBest
    split
    · rename_i hb
      rcases Nat.lt_or_ge m j with z | z
      · have : j = m + 1 := by omega
        subst this
        exact irr _
      · exact tr j _ _ (ih z) (asy _ _ hb)
    · rename_i hb
      rcases Nat.lt_or_ge m j with z | z
      · have : j = m + 1 := by omega
        subst this
        exact Bool.eq_false_iff.mpr hb
      · exact ih z
end RX

namespace DL
open PySem PySem.Spec PyProof.Rows L2
/-- a pair of ints -/
def encP (p : Int × Int) : PyData := .tuple [.int p.1, .int p.2]
def pLt (p q : Int × Int) : Bool := decide (p.1 < q.1 ∨ (p.1 = q.1 ∧ p.2 < q.2))
theorem encP_lt (p q : Int × Int) : W.dataLt (encP p) (encP q) = pLt p q := W.dataLt_ii _ _ _ _
theorem encP_alike (p q : Int × Int) : W.alike (encP p) (encP q) = true := rfl
theorem encP_depth (p : Int × Int) : (encP p).depth = 1 := rfl
def minC : FC
  | [.dat (.list ps)], M, Q => ∃ ns : List (Int × Int), ps = ns.map encP ∧ ns ≠ [] ∧ ∀ r, r ∈ ns → (∀ q, q ∈ ns → pLt q r = false) → Q (.dat (encP r)) M
  | _, _, _ => False
def min2C : FC
  | [.dat x, .dat y], M, Q => ∃ p q, x = encP p ∧ y = encP q ∧ Q (.dat (encP (if pLt q p = true then q else p))) M
  | _, _, _ => False
theorem pLt_irr (p : Int × Int) : pLt p p = false := by unfold pLt; exact decide_eq_false (by omega)
theorem pLt_asy {p q : Int × Int} (h : pLt p q = true) : pLt q p = false := by
  unfold pLt at *
  have := of_decide_eq_true h
  exact decide_eq_false (by omega)
theorem pLt_tr {p q r : Int × Int} (h : pLt p q = false) (h' : pLt q r = false) : pLt p r = false := by
  unfold pLt at *
  have h1 := of_decide_eq_false h
  have h2 := of_decide_eq_false h'
  exact decide_eq_false (by omega)
section
variable {X : Cx}
theorem cmp_pairs {pins : List (Addr × Obj)} {σ : L2.St} {H : Hp} {s : Shared} (I : Inv X pins σ H s) (hu : X.A.units + 64 < cLine) {xs : List V} {us : List Value} (rv : Vals xs us) {ns : List (Int × Int)} (da : DqAll H xs (ns.map encP)) :
    RX.Cmp X.prog X.w X.A.in1 (fun h => ∀ b o, s.heap.get? b = some o → h.get? b = some o) (fun i v => us.toArray[i]? = some v) (fun i j => pLt (ns.getD i (0, 0)) (ns.getD j (0, 0))) := by
  have rd : ∀ i u, us.toArray[i]? = some u → ∃ as, Reads s.heap u (encP (ns.getD i (0, 0))) as := by
    intro i u e
    rw [List.getElem?_toArray] at e
    have li : i < us.length := (List.getElem?_eq_some_iff.mp e).1
    have ln : i < ns.length := by
      have h1 := rv.length
      have h2 := da.length
      rw [List.length_map] at h2
      omega
    have en : (ns.map encP)[i]? = some (encP (ns.getD i (0, 0))) := by
      rw [List.getElem?_map, List.getD_eq_getElem?_getD, List.getElem?_eq_getElem ln]; rfl
    obtain ⟨x, ex, dx⟩ := DqAll_get da en
    obtain ⟨u', eu, ru⟩ := rv.get ex
    rw [eu] at e; cases e
    exact Dp.reads (X := X) I _ x u (Dq_dp _ _ dx) ru
  intro i j u v s2 Q E g eu ev q
  obtain ⟨as, r1⟩ := rd i u eu
  obtain ⟨bs, r2⟩ := rd j v ev
  refine W.rcLt_alike _ _ X.A.in1 s2 u v as bs (Reads.keeps g r1) (Reads.keeps g r2) (encP_alike _ _) (by intro z; cases z) ?_ _ _ _ _ ?_
  · have : X.A.in1.units = X.A.units + 1 := rfl
    rw [this, encP_depth, encP_depth]
    omega
  · rw [encP_lt]; exact q
theorem c_min (hc : X.calm = true) (hu : X.A.units + 64 < cLine) : CallR X (.builtin "min") (liftC minC) := by
  rintro pins s σ H vs us Q I r ⟨S, M, ds, Qd, m, rd, h, k⟩
  unfold minC at h
  split at h
  · obtain ⟨v, rfl, rv⟩ := dvs1 rd
    obtain ⟨ns, rfl, ne, q⟩ := h
    obtain ⟨a, xs, rfl, ha, da⟩ := dv_lst rv
    obtain ⟨u, rfl, ru⟩ := vals1 r
    cases ru
    obtain ⟨its, rx, pl, _⟩ := I.list (.of (imm_sub _ _ ha))
    have la : a < s.heap.objs.size := pl.lt
    have len : its.length = ns.length := by
      have h1 := rx.length
      have h2 := da.length
      rw [List.length_map] at h2
      omega
    have pos : 0 < ns.length := List.length_pos_iff.mpr ne
    refine RX.call_min (wpAny_pyIter_list pl.isList ?_)
    refine ⟨_, _, _, _, _, _, _, _, rfl, Walks.list (A := X.A.in1) (I.ok.hd hc) s.heap.objs.size a (Nat.ne_of_lt la) its.toArray, ⟨⟨_, Heap.get?_push_size _ rfl, rfl, rfl⟩, pl.isList.push _⟩, ?_, by rw [List.size_toArray, len]; exact pos,
      cmp_pairs I hu rx (DqAll_mono imm_sub _ _ da), fun b o e => Heap.get?_push_of_some _ e, ?_, ?_⟩
    · intro b hb
      show b < (s.heap.push _).objs.size
      rw [Heap.size_push]
      simp only [List.mem_cons, List.not_mem_nil, or_false] at hb
      rcases hb with rfl | rfl
      · exact Nat.lt_succ_self _
      · exact Nat.lt_succ_of_lt la
    · intro S' hS h1 h2 g kp b o e
      have hb := Heap.lt_size e
      refine kp b o (fun z => ?_) (fun z => ?_) (g b o e)
      · cases List.mem_singleton.mp z; exact Nat.lt_irrefl _ hb
      · subst z
        have : (s.heap.push { cls := .type "list_iterator", data := .fields #[.ref a, .int 0 0] }).objs.size ≤ b := hS
        rw [Heap.size_push] at this
        exact Nat.lt_irrefl _ (Nat.lt_of_lt_of_le hb (Nat.le_of_succ_le this))
    · intro v h1 t1 pv kp
      have hle := RX.argBest_le (fun i j => pLt (ns.getD i (0, 0)) (ns.getD j (0, 0))) (its.toArray.size - 1)
      rw [List.size_toArray, len] at hle pv
      generalize ek : argBest (fun i j => pLt (ns.getD i (0, 0)) (ns.getD j (0, 0))) (ns.length - 1) = kk at hle pv
      have lk : kk < ns.length := by omega
      have en : (ns.map encP)[kk]? = some (encP ns[kk]) := by rw [List.getElem?_map, List.getElem?_eq_getElem lk]; rfl
      obtain ⟨x, ex, dx⟩ := DqAll_get da en
      obtain ⟨u, eu, ru⟩ := rx.get ex
      rw [List.getElem?_toArray, eu] at pv
      cases pv
      refine ⟨x, H, I.kept fun b o e => ?_, ru, k.here (d := .dat (encP ns[kk])) m dx (q _ (List.getElem_mem _) fun z hz => ?_)⟩
      · have hb := Heap.lt_size e
        exact kp b o (fun z => by cases List.mem_singleton.mp z; exact Nat.lt_irrefl _ hb) (Heap.get?_push_of_some _ e)
      · obtain ⟨j, hj, rfl⟩ := List.getElem_of_mem hz
        have := RX.argBest_least (bt := fun i j => pLt (ns.getD i (0, 0)) (ns.getD j (0, 0))) (fun _ => pLt_irr _) (fun _ _ _ => pLt_tr) (fun _ _ => pLt_asy) (ns.length - 1) j (by omega)
        rw [ek] at this
        simpa [List.getD_eq_getElem?_getD, List.getElem?_eq_getElem hj, List.getElem?_eq_getElem lk] using this
  · exact h.elim
theorem c_min2 (hc : X.calm = true) (hu : X.A.units + 64 < cLine) : CallR X (.builtin "min") (liftC min2C) := by
  rintro pins s σ H vs us Q I r ⟨S, M, ds, Qd, m, rd, h, k⟩
  unfold min2C at h
  split at h
  · obtain ⟨v, v2, rfl, rv, rv2⟩ := dvs2 rd
    obtain ⟨p, q, rfl, rfl, qq⟩ := h
    obtain ⟨u, u2, rfl, ru, ru2⟩ := vals2 r
    have tup : (s.heap.push { cls := .type "tuple", data := .seq #[u, u2] }).IsTuple s.heap.objs.size [u, u2].toArray := ⟨_, Heap.get?_push_size _ rfl, rfl, 0, rfl⟩
    have z1 : (s.heap.push { cls := .type "tuple", data := .seq #[u, u2] }).objs.size = s.heap.objs.size + 1 := Heap.size_push ..
    refine RX.call_min2 (wpAny_pyIter_tuple tup ?_)
    refine ⟨_, _, _, _, _, _, _, _, rfl, Walks.tuple (A := X.A.in1) (I.ok.hd hc) (s.heap.push { cls := .type "tuple", data := .seq #[u, u2] }).objs.size s.heap.objs.size (by rw [z1]; exact Nat.ne_of_lt (Nat.lt_succ_self _)) [u, u2].toArray, ⟨⟨_, Heap.get?_push_size _ rfl, rfl, rfl⟩, tup.push _⟩, ?_, Nat.zero_lt_two,
      cmp_pairs I hu (.cons ru (.cons ru2 .nil)) (ns := [p, q]) (.cons (Dq_mono imm_sub _ _ rv) (.cons (Dq_mono imm_sub _ _ rv2) .nil)), fun b o e => Heap.get?_push_of_some _ (Heap.get?_push_of_some _ e), ?_, ?_⟩
    · intro b hb
      show b < ((s.heap.push _).push _).objs.size
      rw [Heap.size_push]
      simp only [List.mem_cons, List.not_mem_nil, or_false] at hb
      rcases hb with rfl | rfl
      · exact Nat.lt_succ_self _
      · rw [z1]; exact Nat.lt_succ_of_lt (Nat.lt_succ_self _)
    · intro S' hS h1 h2 g kp b o e
      have hb := Heap.lt_size e
      refine kp b o (fun z => ?_) (fun z => ?_) (g b o e)
      · have z' := List.mem_singleton.mp z
        rw [z', z1] at hb
        exact Nat.lt_irrefl _ (Nat.lt_of_succ_lt hb)
      · subst z
        have : ((s.heap.push { cls := .type "tuple", data := .seq #[u, u2] }).push { cls := .type "tuple_iterator", data := .fields #[.ref s.heap.objs.size, .int 0 0] }).objs.size ≤ b := hS
        rw [Heap.size_push, z1] at this
        exact Nat.lt_irrefl _ (Nat.lt_of_lt_of_le hb (Nat.le_of_succ_le (Nat.le_of_succ_le this)))
    · intro v' h1 t1 pv kp
      have keep : ∀ b o, s.heap.get? b = some o → h1.get? b = some o := fun b o e => by
        have hb := Heap.lt_size e
        refine kp b o (fun z => ?_) (Heap.get?_push_of_some _ (Heap.get?_push_of_some _ e))
        have z' := List.mem_singleton.mp z
        rw [z', z1] at hb
        exact Nat.lt_irrefl _ (Nat.lt_of_succ_lt hb)
      have pv' : [u, u2].toArray[argBest (fun i j => pLt ([p, q].getD i (0, 0)) ([p, q].getD j (0, 0))) 1]? = some v' := pv
      by_cases hb : pLt q p = true
      · have e1 : argBest (fun i j => pLt ([p, q].getD i (0, 0)) ([p, q].getD j (0, 0))) 1 = 1 := by
          show (if pLt q p = true then 1 else 0) = 1
          rw [if_pos hb]
        rw [e1] at pv'
        have e2 : u2 = v' := Option.some.inj pv'
        subst e2
        rw [if_pos hb] at qq
        exact ⟨v2, H, I.kept keep, ru2, k.here (d := .dat (encP q)) m rv2 qq⟩
      · have e1 : argBest (fun i j => pLt ([p, q].getD i (0, 0)) ([p, q].getD j (0, 0))) 1 = 0 := by
          show (if pLt q p = true then 1 else 0) = 0
          rw [if_neg hb]
        rw [e1] at pv'
        have e2 : u = v' := Option.some.inj pv'
        subst e2
        rw [if_neg hb] at qq
        exact ⟨v, H, I.kept keep, ru, k.here (d := .dat (encP p)) m rv qq⟩
  · exact h.elim
end
end DL
set_option Elab.async false
set_option linter.all false
set_option maxRecDepth 100000
set_option maxHeartbeats 4000000
/-! RX3: sorted of data; len(set(t)), sorted(set(t)) of a tuple of ints. -/
namespace DL
open PySem PySem.Spec PyProof.Rows L2

/-- sorted(xs): some arrangement of the data -/
def sortedC : FC
  | [.dat (.list ps)], M, Q => W.AllAlike ps ∧ W.Sortable ps ∧ ps.length ≤ 16777216 ∧ (∀ p, p ∈ ps → p.depth ≤ 60) ∧ ∀ qs, qs.Perm ps → Q (.dat (.list qs)) M
  | _, _, _ => False
def SameAs (HI : Hp) (u : Value) (d : PyData) : Prop := ∃ x, RelV x u ∧ Dq HI x d
theorem each_same {HI : Hp} : ∀ {xs : List V} {us : List Value} {ds : List PyData}, Vals xs us → DqAll HI xs ds → W.EachIs (SameAs HI) us ds
  | _, _, [], .nil, _ => .nil
  | _, _, _ :: _, .nil, h => by cases h
  | _, _, [], .cons _ _, h => by cases h
  | _, _, d :: ds, .cons r1 r2, h => by
    cases h with
    | cons h1 h2 => exact .cons ⟨_, r1, h1⟩ (each_same r2 h2)
theorem same_each {HI : Hp} : ∀ {us : List Value} {ds : List PyData}, W.EachIs (SameAs HI) us ds → ∃ xs, Vals xs us ∧ DqAll HI xs ds
  | _, _, .nil => ⟨[], .nil, .nil⟩
  | _, _, .cons h t => by
    obtain ⟨x, r, d⟩ := h
    obtain ⟨xs, rs, dsx⟩ := same_each t
    exact ⟨x :: xs, .cons r rs, .cons d dsx⟩
section
variable {X : Cx}
theorem c_sorted (hc : X.calm = true) (hu : X.A.units + 64 < cLine) : CallR X (.builtin "sorted") (liftC sortedC) := by
  rintro pins s σ H vs us Q I r ⟨S, M, ds, Qd, m, rd, h, k⟩
  unfold sortedC at h
  split at h
  · obtain ⟨v, rfl, rv⟩ := dvs1 rd
    obtain ⟨al, so, len, dep, q⟩ := h
    rename_i ps
    obtain ⟨a, xs, rfl, ha, da⟩ := dv_lst rv
    obtain ⟨u, rfl, ru⟩ := vals1 r
    cases ru
    obtain ⟨its, rx, pl, _⟩ := I.list (.of (imm_sub _ _ ha))
    have e := each_same rx da
    refine W.sorted_data (R := SameAs (Imm M S H)) (enc := fun d => d) pl.isList e ?_ (by rw [List.map_id']; exact al) (by rw [List.map_id']; exact so) (by rw [sizeLine_eq]; exact len) (fun b hb => by have := dep b hb; omega) fun out hl ho => ?_
    · refine e.mono fun u d ⟨x, r1, r2⟩ => ?_
      exact Dp.reads (X := X) I d x u (Dq_dp _ _ (Dq_mono imm_sub _ _ r2)) r1
    · have pm : (ps.mergeSort (W.dataLe false fun d => d)).Perm ps := List.mergeSort_perm _ _
      obtain ⟨ys, ry, dy⟩ := same_each ho
      obtain ⟨ep, cell⟩ := PyProof.Rows.sortedAll_at s.heap its (List.toArray out)
      have hp : H (s.heap.objs.size + 1) = none := I.hok.fresh (Nat.le_succ _)
      have ly : ys.length ≤ sizeLine := by rw [sizeLine_eq, dy.length, pm.length_eq]; exact len
      have I1 : Inv X pins σ (upd H (s.heap.objs.size + 1) (.lst ys)) { s with heap := sortedAll s.heap its (List.toArray out) } :=
        I.laid (t' := s.toks) (fun _ _ => PyProof.Rows.sortedAll_old) (Nat.le_succ _) ⟨ly, out, ep, ry, by simpa using cell⟩
      obtain ⟨m1, g1, i1⟩ := m.new hp (.lst ys)
      exact ⟨.ref (s.heap.objs.size + 1), _, I1, rfl, k _ _ _ _ g1 m1 (dv_lst_mk i1 (DqAll_mono (g1.imm S) _ _ dy)) (q _ pm)⟩
  · exact h.elim

/-! ### sets of ints, at once read -/
/-- the members, each once -/
def Once (ns l : List Int) : Prop := l.Nodup ∧ ∀ k, k ∈ l ↔ k ∈ ns
def rSetT (K : PySem.W.Frag) (w : World) : List V → Hp → VK → Prop := fun vs H Q => ∃ a ns, vs = [.ref a] ∧ SqT K H a (ns.map V.int) ∧ ns.length ≤ 1000 ∧ ∀ p l, H p = none → Once ns l → Q (.ref p) (upd H p (SetO w p (fun j => decide (j ∈ ns)) l.length))
theorem cr_setT (hc : X.calm = true) : CallR X (.type "set") (rSetT X.K X.w) := by
  rintro pins s σ H vs us Q I r ⟨a, ns, rfl, sq, len, q⟩
  obtain ⟨u, rfl, ru⟩ := vals1 r
  cases ru
  obtain ⟨its, rx, tp, _⟩ := I.tuple sq
  refine call_set_tupI ns (I.ok.hd hc) (show s.heap.IsTuple a its.toArray from tp) (by simpa using intsAre_of rx) (by unfold scanBound; omega) fun h' tk c R _ kp => ?_
  obtain ⟨o, es, ep, t, p1, p2, p3, p4, p5, p6, p7, p8, p9, p10⟩ := id R
  have on : Once ns (es.toList.map keyOf) := ⟨p5, fun z => by rw [← p6 z, decide_eq_true_eq]⟩
  have lc : (es.toList.map keyOf).length = c := by rw [List.length_map, Array.length_toList]; exact p9
  have hp : H s.heap.objs.size = none := I.hok.fresh (Nat.le_refl _)
  refine ⟨.ref s.heap.objs.size, _, I.laid (t' := tk) kp (Nat.le_refl _) (setO_new R), rfl, ?_⟩
  have := q _ _ hp on
  rw [lc] at this
  exact this
def rLenSetO (w : World) : List V → Hp → VK → Prop := fun vs H Q => ∃ a S n, vs = [.ref a] ∧ H a = some (SetO w a S n) ∧ Q (.int (n : Nat)) H
theorem cr_lenSetO : CallR X (.builtin "len") (rLenSetO X.w) := by
  rintro pins s σ H vs us Q I r ⟨a, S, n, rfl, ha, q⟩
  obtain ⟨u, rfl, ru⟩ := vals1 r
  cases ru
  obtain ⟨o, es, ep, t, p1, p2, p3, p4, p5, p6, p7, p8, p9, p10⟩ := setO_get I ha
  refine call_len_set p1 p2 p3 p8 ?_ ⟨.int (n : Nat), H, I.tok _, ⟨_, by rw [p9]⟩, q⟩
  unfold scanBound at p7
  omega
/-- len(set(t)) -/
def dLenSet (te : DE) : DE := fun δ M Q => te δ M fun d M1 => match d with
  | .dat (.tuple ps) => ∃ ns : List Int, ps = ns.map .int ∧ ns.length ≤ 1000 ∧ ∀ l, Once ns l → Q (.dat (.int (l.length : Nat))) M1
  | _ => False
/-- sorted(set(t)) -/
def dSortSet (te : DE) : DE := fun δ M Q => te δ M fun d M1 => match d with
  | .dat (.tuple ps) => ∃ ns : List Int, ps = ns.map .int ∧ ns.length ≤ 60 ∧ ∀ l, Once ns l → Q (.dat (.list (l.map .int))) M1
  | _ => False
theorem nodup_sub_len : ∀ {l ns : List Int}, l.Nodup → (∀ k, k ∈ l → k ∈ ns) → l.length ≤ ns.length
  | [], _, _, _ => Nat.zero_le _
  | x :: l, ns, nd, sub => by
    obtain ⟨h1, h2⟩ := List.nodup_cons.mp nd
    have hx : x ∈ ns := sub x List.mem_cons_self
    have ih := nodup_sub_len (l := l) (ns := ns.erase x) h2 fun k hk => (List.mem_erase_of_ne (fun (e : k = x) => h1 (by rw [← e]; exact hk))).mpr (sub k (List.mem_cons_of_mem _ hk))
    rw [List.length_erase_of_mem hx] at ih
    have := List.length_pos_of_mem hx
    rw [List.length_cons]
    omega
theorem once_len {ns l : List Int} (h : Once ns l) : l.length ≤ ns.length := nodup_sub_len h.1 fun k hk => (h.2 k).mp hk
section
variable {e : Expr} {te : DE} {p p2 pos pos2 : Pos}
theorem q_lenSet (hc : X.calm = true) (hg : Gl X "len") (hm : X.mg "len" = none) (hv : bootBuiltins "len" = some (.builtin "len")) (hg2 : Gl X "set") (hm2 : X.mg "set" = none) (hv2 : bootBuiltins "set" = some (.type "set")) (he : QE X e te)
    (n1 : starEach [e] X.env = (false, eval e X.env) :: starEach [] X.env := by rfl) (n2 : starEach [(Expr.Call (.Name "set" p2) [e] [] pos2)] X.env = (false, eval (Expr.Call (.Name "set" p2) [e] [] pos2) X.env) :: starEach [] X.env := by rfl) :
    QE X (.Call (.Name "len" p) [.Call (.Name "set" p2) [e] [] pos2] [] pos) (dLenSet te) :=
  PE_imp (pe_callB cr_lenSetO hg hm hv (pa_cons (pe_callTy (cr_setT hc) hg2 hm2 hv2 (pa_cons he pa_nil n1) (by decide) (by decide) n1 rfl) pa_nil n2) (by decide) (by decide) n2 rfl) fun σ H Q ⟨S, δ, M, Qd, r, h, k⟩ =>
    ⟨S, δ, M, _, r, h, fun d M1 v H1 g1 m1 r1 q1 => by
      revert q1
      dsimp only
      split
      · rintro ⟨ns, rfl, len, q1⟩
        obtain ⟨a, xs, rfl, ha, da⟩ := dv_tup r1
        cases dq_ints da
        refine ⟨a, ns, rfl, .of (imm_sub _ _ ha), len, fun p l hp on => ⟨p, _, _, rfl, upd_same, ?_⟩⟩
        obtain ⟨m2, g2, _⟩ := m1.new hp (SetO X.w p (fun j => decide (j ∈ ns)) l.length)
        exact k _ _ _ _ (g1.trans g2) m2 dvI (q1 l on)
      · exact False.elim⟩
theorem q_sortSet (hc : X.calm = true) (hg : Gl X "sorted") (hm : X.mg "sorted" = none) (hv : bootBuiltins "sorted" = some (.builtin "sorted")) (hg2 : Gl X "set") (hm2 : X.mg "set" = none) (hv2 : bootBuiltins "set" = some (.type "set")) (he : QE X e te)
    (n1 : starEach [e] X.env = (false, eval e X.env) :: starEach [] X.env := by rfl) (n2 : starEach [(Expr.Call (.Name "set" p2) [e] [] pos2)] X.env = (false, eval (Expr.Call (.Name "set" p2) [e] [] pos2) X.env) :: starEach [] X.env := by rfl) :
    QE X (.Call (.Name "sorted" p) [.Call (.Name "set" p2) [e] [] pos2] [] pos) (dSortSet te) :=
  PE_imp (pe_callB (cr_sortedSet hc) hg hm hv (pa_cons (pe_callTy (cr_setT hc) hg2 hm2 hv2 (pa_cons he pa_nil n1) (by decide) (by decide) n1 rfl) pa_nil n2) (by decide) (by decide) n2 rfl) fun σ H Q ⟨S, δ, M, Qd, r, h, k⟩ =>
    ⟨S, δ, M, _, r, h, fun d M1 v H1 g1 m1 r1 q1 => by
      revert q1
      dsimp only
      split
      · rintro ⟨ns, rfl, len, q1⟩
        obtain ⟨a, xs, rfl, ha, da⟩ := dv_tup r1
        cases dq_ints da
        refine ⟨a, ns, rfl, .of (imm_sub _ _ ha), by omega, fun p l hp on => ⟨p, _, _, rfl, upd_same, Nat.lt_of_le_of_lt (once_len on) (by omega), fun ks z inc mem _ hz => ?_⟩⟩
        obtain ⟨m2, g2, _⟩ := m1.new hp (SetO X.w p (fun j => decide (j ∈ ns)) l.length)
        obtain ⟨m3, g3, i3⟩ := m2.new hz (.lst (ks.map V.int))
        refine k _ _ _ _ ((g1.trans g2).trans g3) m3 (dv_lst_mk i3 (ints_dq ks)) (q1 ks ⟨inc.imp fun h => Int.ne_of_lt h, fun j => ?_⟩)
        rw [mem j, decide_eq_true_eq]
      · exact False.elim⟩
end
end
end DL
set_option Elab.async false
set_option linter.all false
set_option maxRecDepth 100000
set_option maxHeartbeats 4000000
/-! RX4: dicts by data, their keys ints. -/
namespace DL
open PySem PySem.Spec PyProof.Rows L2

/-- what stands at the key k -/
def valD : List (Key × D) → Key → Option D
  | [], _ => none
  | p :: r, k => if p.1 = k then some p.2 else valD r k
def hasD (kvs : List (Key × D)) (k : Key) : Bool := (valD kvs k).isSome
/-- in its place, or at the end -/
def putD (kvs : List (Key × D)) (k : Key) (d : D) : List (Key × D) :=
  if hasD kvs k = true then kvs.map (fun p => if p.1 = k then (p.1, d) else p) else kvs ++ [(k, d)]
abbrev KvD (HI : Hp) : List (Key × V) → List (Key × D) → Prop := Paired (fun (p : Key × V) (q : Key × D) => p.1 = q.1 ∧ DV HI p.2 q.2)
section
variable {HI : Hp} {xs : List (Key × V)} {kvs : List (Key × D)}
theorem KvD.get (r : KvD HI xs kvs) (k : Key) : (valD kvs k = none ∧ valV xs k = none) ∨ ∃ d v, valD kvs k = some d ∧ valV xs k = some v ∧ DV HI v d := by
  induction r with
  | nil => exact .inl ⟨rfl, rfl⟩
  | @cons p q ps qs h t ih =>
    by_cases e : q.1 = k
    · exact .inr ⟨q.2, p.2, by show (if q.1 = k then some q.2 else _) = _; rw [if_pos e], valV_pos (h.1.trans e), h.2⟩
    · rw [valV_neg (fun z => e (h.1.symm.trans z)), show valD (q :: qs) k = valD qs k from if_neg e]
      exact ih
theorem KvD.some (r : KvD HI xs kvs) {k : Key} {d : D} (h : valD kvs k = some d) : ∃ v, valV xs k = some v ∧ DV HI v d := by
  rcases r.get k with ⟨e, _⟩ | ⟨d', v, e1, e2, e3⟩
  · rw [h] at e; cases e
  · rw [h] at e1; cases e1; exact ⟨v, e2, e3⟩
theorem KvD.isSome (r : KvD HI xs kvs) (k : Key) : (valV xs k).isSome = hasD kvs k := by
  unfold hasD
  rcases r.get k with ⟨e1, e2⟩ | ⟨d', v, e1, e2, e3⟩
  · rw [e1, e2]; rfl
  · rw [e1, e2]; rfl
theorem KvD.put (r : KvD HI xs kvs) (k : Key) {v : V} {d : D} (h : DV HI v d) : KvD HI (putK xs k v) (putD kvs k d) := by
  unfold putK putD
  rw [valV_any, r.isSome k]
  by_cases z : hasD kvs k = true
  · rw [if_pos z, if_pos z]
    clear z
    induction r with
    | nil => exact .nil
    | @cons p q ps qs hh t ih =>
      rw [List.map_cons, List.map_cons]
      refine .cons ?_ ih
      by_cases e : q.1 = k
      · rw [if_pos e, if_pos (hh.1.trans e)]; exact ⟨hh.1, h⟩
      · rw [if_neg e, if_neg (fun y => e (hh.1.symm.trans y))]; exact hh
  · rw [if_neg z, if_neg z]; exact Paired.snoc r ⟨rfl, h⟩
end
theorem valD_cons (p : Key × D) (r : List (Key × D)) (k : Key) : valD (p :: r) k = if p.1 = k then some p.2 else valD r k := rfl
theorem valD_map (k j : Key) (d : D) (l : List (Key × D)) : valD (l.map fun p => if p.1 = k then (p.1, d) else p) j = if j = k then (valD l k).map (fun _ => d) else valD l j := by
  induction l with
  | nil => by_cases f : j = k <;> simp [f, valD]
  | cons p l ih =>
    rw [List.map_cons, valD_cons, valD_cons, valD_cons, ih]
    by_cases e : p.1 = k
    · by_cases f : j = k
      · simp [e, f]
      · have : ¬ k = j := fun z => f z.symm
        simp [e, f, this]
    · by_cases f : j = k
      · simp [e, f]
      · simp [e, f]
theorem valD_snoc (k j : Key) (d : D) (l : List (Key × D)) : valD (l ++ [(k, d)]) j = match valD l j with | some x => some x | none => if j = k then some d else none := by
  induction l with
  | nil =>
    show (if k = j then some d else none) = if j = k then some d else none
    by_cases f : j = k
    · rw [if_pos f, if_pos f.symm]
    · rw [if_neg f, if_neg (fun z => f z.symm)]
  | cons p l ih =>
    rw [List.cons_append, valD_cons, valD_cons, ih]
    by_cases f : p.1 = j
    · simp [f]
    · simp [f]
theorem valD_put (kvs : List (Key × D)) (k j : Key) (d : D) : valD (putD kvs k d) j = if j = k then some d else valD kvs j := by
  unfold putD
  by_cases z : hasD kvs k = true
  · rw [if_pos z, valD_map]
    by_cases f : j = k
    · rw [if_pos f, if_pos f]
      obtain ⟨x, hx⟩ := Option.isSome_iff_exists.mp z
      rw [hx]; rfl
    · rw [if_neg f, if_neg f]
  · rw [if_neg z, valD_snoc]
    by_cases f : j = k
    · subst f
      have : valD kvs j = none := by
        unfold hasD at z
        cases q : valD kvs j with
        | none => rfl
        | some x => rw [q] at z; exact (z rfl).elim
      rw [this]
    · simp only [if_neg f]
      cases valD kvs j <;> rfl
theorem putD_len (kvs : List (Key × D)) (k : Key) (d : D) : (putD kvs k d).length ≤ kvs.length + 1 := by
  unfold putD
  split
  · rw [List.length_map]; omega
  · rw [List.length_append, List.length_singleton]; omega
/-- the int i as a key -/
abbrev kI (i : Int) : Key := .inl i

def getDct : F2
  | .ref a, .dat (.int i), M, Q => ∃ kvs d, M a = some (.dct kvs) ∧ valD kvs (kI i) = some d ∧ Q d M
  | _, _, _, _ => False
def inDctD : F2
  | .dat (.int i), .ref a, M, Q => ∃ kvs, M a = some (.dct kvs) ∧ Q (.dat (.bool (hasD kvs (kI i)))) M
  | _, _, _, _ => False
def ninDctD : F2
  | .dat (.int i), .ref a, M, Q => ∃ kvs, M a = some (.dct kvs) ∧ Q (.dat (.bool (!hasD kvs (kI i)))) M
  | _, _, _, _ => False
def setDct : FSet := fun o i v M Q => match o, i with
  | .ref a, .dat (.int i) => ∃ kvs, M a = some (.dct kvs) ∧ kvs.length < 16777216 ∧ Q (updM M a (.dct (putD kvs (kI i) v)))
  | _, _ => False
def dNewDct : DE := fun _ M Q => ∀ p, M p = none → Q (.ref p) (updM M p (.dct []))
/-- d[i] -/
def dGetDct (to ti : DE) : DE := dOp getDct to ti
def isDct (M : Mp) (d : D) : Prop := match d with
  | .ref a => ∃ kvs, M a = some (.dct kvs)
  | _ => False
/-- d.get(i), d.get(i, x) -/
def dGet1 (to ti : DE) : DE := fun δ M Q => to δ M fun o M1 => isDct M1 o ∧ ti δ M1 fun i M2 => match o, i with
  | .ref a, .dat (.int i) => ∃ kvs, M2 a = some (.dct kvs) ∧ Q ((valD kvs (kI i)).getD (.dat .none)) M2
  | _, _ => False
def dGet2 (to ti tx : DE) : DE := fun δ M Q => to δ M fun o M1 => isDct M1 o ∧ ti δ M1 fun i M2 => tx δ M2 fun x M3 => match o, i with
  | .ref a, .dat (.int i) => ∃ kvs, M3 a = some (.dct kvs) ∧ Q ((valD kvs (kI i)).getD x) M3
  | _, _ => False
def dSetd (to ti tx : DE) : DE := fun δ M Q => to δ M fun o M1 => isDct M1 o ∧ ti δ M1 fun i M2 => tx δ M2 fun x M3 => match o, i with
  | .ref a, .dat (.int i) => ∃ kvs, M3 a = some (.dct kvs) ∧ kvs.length < 16777216 ∧ match valD kvs (kI i) with
    | some d => Q d M3
    | none => Q x (updM M3 a (.dct (putD kvs (kI i) x)))
  | _, _ => False
section
variable {X : Cx}
theorem at_dct {S : Hid} {M : Mp} {H : Hp} {a : Addr} {kvs : List (Key × D)} (m : RepM S M H) (e : M a = some (.dct kvs)) : ∃ xs, H a = some (.dK xs) ∧ KvD (Imm M S H) xs kvs := m.obj a _ e
theorem hu1 {A : Around} (hu : A.units + 64 < cLine) : A.units + 1 < cLine := by omega
theorem o_inDct (hu : X.A.units + 64 < cLine) : OpR X (compareOp .In) (liftR inDctD) := by
  rintro pins s σ H x y v u Q I rx ry ⟨S, M, dx, dy, Qd, m, hx, hy, h, k⟩
  unfold inDctD at h
  split at h
  · rename_i i a
    obtain ⟨kvs, e, q⟩ := h
    cases dv_int hx
    cases (show y = .ref a from hy)
    cases ry
    obtain ⟨xs, h1, h2⟩ := at_dct m e
    refine d_in (hu1 hu) I (DGet.k (k := kI i) h1) rx fun s3 I3 => ⟨.bl _, H, I3, rfl, k.here m dvB ?_⟩
    rw [h2.isSome]; exact q
  · exact h.elim
theorem o_ninDct (hu : X.A.units + 64 < cLine) : OpR X (compareOp .NotIn) (liftR ninDctD) := by
  rintro pins s σ H x y v u Q I rx ry ⟨S, M, dx, dy, Qd, m, hx, hy, h, k⟩
  unfold ninDctD at h
  split at h
  · rename_i i a
    obtain ⟨kvs, e, q⟩ := h
    cases dv_int hx
    cases (show y = .ref a from hy)
    cases ry
    obtain ⟨xs, h1, h2⟩ := at_dct m e
    refine d_notIn (hu1 hu) I (DGet.k (k := kI i) h1) rx fun s3 I3 => ⟨.bl _, H, I3, rfl, k.here m dvB ?_⟩
    rw [h2.isSome]; exact q
  · exact h.elim
theorem p_setDct (hu : X.A.units + 64 < cLine) : PSet X (liftSet setDct) := by
  rintro pins s σ H o i v ov iv u Q I ro ri rv ⟨S, M, dox, di, dv, Kd, m, ho, hi, hv, h, k⟩
  unfold setDct at h
  split at h
  · rename_i a i'
    obtain ⟨kvs, ea, hl, q⟩ := h
    cases (show o = .ref a from ho)
    cases dv_int hi
    obtain ⟨xs, h1, h2⟩ := at_dct m ea
    refine set_dict (hu1 hu) pins s σ H _ _ v ov iv u Q I ro ri rv ⟨a, _, rfl, DPut.k (k := kI i') h1 (by rw [sizeLine_eq, Paired.length h2]; exact hl), ?_⟩
    obtain ⟨m1, g1⟩ := m.put (o := .dct (putD kvs (kI i') dv)) (u := .dK (putK xs (kI i') v)) (by rw [ea]; rfl) ⟨_, upd_same, h2.put _ hv⟩
    exact k _ _ g1 m1 q
  · exact h.elim
variable {o i e : Expr} {to ti tx : DE} {pos apos cpos : Pos}
theorem q_newDct : QE X (.Dict [] [] pos) dNewDct := PE_imp pe_dnewK fun σ H Q ⟨S, δ, M, Qd, r, h, k⟩ p hp => by
  obtain ⟨m1, g1⟩ := r.m.newM (o := .dct []) (u := .dK []) hp ⟨[], upd_same, .nil⟩
  exact k _ _ _ _ g1 m1 dvR (h p (r.m.free hp))
theorem q_getDct (hu : X.A.units + 64 < cLine) (ho : QE X o to) (hi : QE X i ti) (hs : NoSl i := by intro _ _; rfl) : QE X (.Subscript o i pos) (dGetDct to ti) := PE_imp (pe_dget (hu1 hu) ho hi hs) fun σ H Q ⟨S, δ, M, Qd, r, h, k⟩ =>
  ⟨S, δ, M, _, r, h, fun o M1 ov H1 g1 m1 r1 q1 => ⟨S, δ, M1, _, r.grow g1 m1, q1, fun i M2 iv H2 g2 m2 r2 q2 => by
    unfold getDct at q2
    split at q2
    · rename_i a i'
      obtain ⟨kvs, d, ea, ed, q⟩ := q2
      cases (show ov = .ref a from r1)
      cases dv_int r2
      obtain ⟨xs, h1, h2⟩ := at_dct m2 ea
      obtain ⟨v, e1, e2⟩ := h2.some ed
      refine ⟨a, v, rfl, ?_, k _ _ _ _ (g1.trans g2) m2 e2 q⟩
      have := DGet.k (k := kI i') h1
      rw [e1] at this
      exact this
    · exact q2.elim⟩⟩
theorem isD_dct {S : Hid} {M : Mp} {H : Hp} {v : V} {d : D} (m : RepM S M H) (r : DV (Imm M S H) v d) (h : isDct M d) : ∃ a, d = .ref a ∧ v = .ref a ∧ IsD H a := by
  cases d with
  | ref a =>
    obtain ⟨kvs, e⟩ := h
    obtain ⟨xs, h1, _⟩ := at_dct m e
    exact ⟨a, rfl, r, .inl ⟨xs, .inl h1⟩⟩
  | dat p => exact h.elim
  | exn a' d' w' n' => exact h.elim
theorem getD_dv {HI : Hp} {xs : List (Key × V)} {kvs : List (Key × D)} (r : KvD HI xs kvs) (k : Key) {v : V} {d : D} (h : DV HI v d) : DV HI ((valV xs k).getD v) ((valD kvs k).getD d) := by
  rcases r.get k with ⟨e1, e2⟩ | ⟨d', v', e1, e2, e3⟩
  · rw [e1, e2]; exact h
  · rw [e1, e2]; exact e3
theorem q_get1 (hu : X.A.units + 64 < cLine) (ho : QE X o to) (hi : QE X i ti) (m : M1 X o "get" apos i cpos := by exact ⟨rfl, rfl, rfl, rfl⟩) : QE X (.Call (.Attribute o "get" apos) [i] [] cpos) (dGet1 to ti) := PE_imp (pe_dget1 (hu1 hu) ho hi m) fun σ H Q ⟨S, δ, M, Qd, r, h, k⟩ =>
  ⟨S, δ, M, _, r, h, fun o M1 ov H1 g1 m1 r1 ⟨io, q1⟩ => by
    obtain ⟨a, rfl, rfl, id⟩ := isD_dct m1 r1 io
    refine ⟨a, rfl, id, S, δ, M1, _, r.grow g1 m1, q1, fun i M2 iv H2 g2 m2 r2 q2 => ?_⟩
    split at q2
    · rename_i b i' eb
      cases eb
      obtain ⟨kvs, ea, q⟩ := q2
      cases dv_int r2
      obtain ⟨xs, h1, h2⟩ := at_dct m2 ea
      exact ⟨_, DGet.k (k := kI i') h1, k _ _ _ _ (g1.trans g2) m2 (getD_dv h2 (kI i') dvN) q⟩
    · exact q2.elim⟩
theorem q_get2 (hu : X.A.units + 64 < cLine) (ho : QE X o to) (hi : QE X i ti) (he : QE X e tx) (m : M2 X o "get" apos i e cpos := by exact ⟨rfl, rfl, rfl, rfl⟩) : QE X (.Call (.Attribute o "get" apos) [i, e] [] cpos) (dGet2 to ti tx) := PE_imp (pe_dget2 (hu1 hu) ho hi he m) fun σ H Q ⟨S, δ, M, Qd, r, h, k⟩ =>
  ⟨S, δ, M, _, r, h, fun o M1 ov H1 g1 m1 r1 ⟨io, q1⟩ => by
    obtain ⟨a, rfl, rfl, id⟩ := isD_dct m1 r1 io
    refine ⟨a, rfl, id, S, δ, M1, _, r.grow g1 m1, q1, fun i M2 iv H2 g2 m2 r2 q2 => ⟨S, δ, M2, _, r.grow (g1.trans g2) m2, q2, fun x M3 xv H3 g3 m3 r3 q3 => ?_⟩⟩
    split at q3
    · rename_i b i' eb
      cases eb
      obtain ⟨kvs, ea, q⟩ := q3
      cases dv_int r2
      obtain ⟨xs, h1, h2⟩ := at_dct m3 ea
      exact ⟨_, DGet.k (k := kI i') h1, k _ _ _ _ ((g1.trans g2).trans g3) m3 (getD_dv h2 (kI i') r3) q⟩
    · exact q3.elim⟩
theorem q_setd (ho : QE X o to) (hi : QE X i ti) (he : QE X e tx) (m : M2 X o "setdefault" apos i e cpos := by exact ⟨rfl, rfl, rfl, rfl⟩) : QE X (.Call (.Attribute o "setdefault" apos) [i, e] [] cpos) (dSetd to ti tx) := PE_imp (pe_dsetd ho hi he m) fun σ H Q ⟨S, δ, M, Qd, r, h, k⟩ =>
  ⟨S, δ, M, _, r, h, fun o M1 ov H1 g1 m1 r1 ⟨io, q1⟩ => by
    obtain ⟨a, rfl, rfl, id⟩ := isD_dct m1 r1 io
    refine ⟨a, rfl, id, S, δ, M1, _, r.grow g1 m1, q1, fun i M2 iv H2 g2 m2 r2 q2 => ⟨S, δ, M2, _, r.grow (g1.trans g2) m2, q2, fun x M3 xv H3 g3 m3 r3 q3 => ?_⟩⟩
    split at q3
    · rename_i b i' eb
      cases eb
      obtain ⟨kvs, ea, hl, q⟩ := q3
      cases dv_int r2
      obtain ⟨xs, h1, h2⟩ := at_dct m3 ea
      refine ⟨xs, kI i', h1, rfl, by rw [sizeLine_eq, Paired.length h2]; exact hl, fun v hv => ?_, fun hn => ?_⟩
      · rcases h2.get (kI i') with ⟨e1, e2⟩ | ⟨d', v', e1, e2, e3⟩
        · rw [hv] at e2; cases e2
        · rw [hv] at e2; cases e2
          rw [e1] at q
          exact k _ _ _ _ ((g1.trans g2).trans g3) m3 e3 q
      · rcases h2.get (kI i') with ⟨e1, e2⟩ | ⟨d', v', e1, e2, e3⟩
        · rw [e1] at q
          obtain ⟨m4, g4⟩ := m3.put (o := .dct (putD kvs (kI i') x)) (u := .dK (putK xs (kI i') xv)) (by rw [ea]; rfl) ⟨_, upd_same, h2.put _ r3⟩
          exact k _ _ _ _ (((g1.trans g2).trans g3).trans g4) m4 (r3.mono (g4.imm S)) q
        · rw [hn] at e2; cases e2
    · exact q3.elim⟩
end
end DL
set_option Elab.async false
set_option linter.all false
set_option maxRecDepth 100000
set_option maxHeartbeats 4000000
/-! RX5: tables (dicts whose keys are tuples of texts, ints, tuples). -/
namespace DL
open PySem PySem.Spec PyProof.Rows L2

def tabGet : List (PyData × PyData) → NestedKey → Option PyData
  | [], _ => none
  | q :: r, k => if nk q.1 = some k then some q.2 else tabGet r k
def tabPut (kvs : List (PyData × PyData)) (k : NestedKey) (p v : PyData) : List (PyData × PyData) :=
  if (tabGet kvs k).isSome = true then kvs.map (fun q => if nk q.1 = some k then (q.1, v) else q) else kvs ++ [(p, v)]
section
variable {HI : Hp} {xs : List (NestedKey × Addr × Value)} {kvs : List (PyData × PyData)}
theorem atKey_cons {x : NestedKey × Addr × Value} {xs : List (NestedKey × Addr × Value)} {k : NestedKey} : atKey (x :: xs) k = if x.1 = k then some x.2 else atKey xs k := by
  unfold atKey
  rw [List.find?_cons]
  by_cases e : x.1 = k
  · simp [e]
  · simp [e]
theorem tab_get (r : Paired (TabRow HI) xs kvs) (k : NestedKey) : (tabGet kvs k = none ∧ atKey xs k = none) ∨ ∃ d p, tabGet kvs k = some d ∧ atKey xs k = some p ∧ ∃ v, RelV v p.2 ∧ Dq HI v d := by
  induction r with
  | nil => exact .inl ⟨rfl, rfl⟩
  | @cons x q ps qs h t ih =>
    rw [atKey_cons, show tabGet (q :: qs) k = if nk q.1 = some k then some q.2 else tabGet qs k from rfl]
    by_cases e : x.1 = k
    · rw [if_pos e, if_pos (by rw [h.1.1, e])]
      exact .inr ⟨_, _, rfl, rfl, h.2.2⟩
    · rw [if_neg e, if_neg (by rw [h.1.1]; exact fun z => e (Option.some.inj z))]
      exact ih
theorem tab_put (r : Paired (TabRow HI) xs kvs) {k : NestedKey} {a : Addr} {p v : PyData} {u : Value} {y : V} (e : nk p = some k ∧ k.depth ≤ 8) (ha : Dq HI (.ref a) p) (hr : RelV y u) (hv : Dq HI y v) : Paired (TabRow HI) (storedH xs k a u) (tabPut kvs k p v) := by
  unfold storedH tabPut
  have hs : (atKey xs k).isSome = (tabGet kvs k).isSome := by
    rcases tab_get r k with ⟨e1, e2⟩ | ⟨d, p, e1, e2, _⟩
    · rw [e1, e2]; rfl
    · rw [e1, e2]; rfl
  rw [hs]
  by_cases z : (tabGet kvs k).isSome = true
  · rw [if_pos z, if_pos z]
    clear z hs
    induction r with
    | nil => exact .nil
    | @cons x q ps qs h t ih =>
      rw [List.map_cons, List.map_cons]
      refine .cons ?_ ih
      unfold putAt
      by_cases f : x.1 = k
      · rw [if_pos f, if_pos (by rw [h.1.1, f])]
        exact ⟨h.1, h.2.1, y, hr, hv⟩
      · rw [if_neg f, if_neg (by rw [h.1.1]; exact fun z => f (Option.some.inj z))]
        exact h
  · rw [if_neg z, if_neg z]
    exact Paired.snoc r ⟨e, ha, y, hr, hv⟩
end
theorem tabPut_len (kvs : List (PyData × PyData)) (k : NestedKey) (p v : PyData) : (tabPut kvs k p v).length ≤ kvs.length + 1 := by
  unfold tabPut
  split
  · rw [List.length_map]; omega
  · rw [List.length_append, List.length_singleton]; omega
section
variable {X : Cx} {pins : List (Addr × Obj)} {σ : L2.St} {H : Hp} {s : Shared}
mutual
theorem key_at (I : Inv X pins σ H s) : ∀ (p : PyData) (v : V) (u : Value) (k : NestedKey), Dq H v p → RelV v u → nk p = some k → NestedIs s.heap k u
  | .none, _, _, k, h, r, e => by cases h; cases r; cases e; exact .none
  | .bool b, _, _, k, h, r, e => by cases h; cases r; cases e; exact .bool rfl
  | .int i, _, _, k, h, r, e => by cases h; obtain ⟨t, rfl⟩ := r; cases e; exact .int i t
  | .str x, _, _, k, h, r, e => by cases h; obtain ⟨t, rfl⟩ := r; cases e; exact .text x t
  | .list ds, _, _, k, h, r, e => by cases e
  | .tuple ds, _, _, k, h, r, e => by
    have e' : (nks ds).map NestedKey.tup = some k := e
    cases q : nks ds with
    | none => rw [q] at e'; cases e'
    | some ks =>
      rw [q] at e'; cases e'
      cases h with
      | @tup a xs _ hs ha =>
        cases r
        obtain ⟨its, rv, ⟨o, ho, hc, n, hd⟩, _⟩ := I.tuple (xs := xs) (.of hs)
        exact .tup ho hc hd (keys_at I ds xs its ks ha rv q)
  | .dict _, _, _, k, h, r, e => by cases h
theorem keys_at (I : Inv X pins σ H s) : ∀ (ps : List PyData) (vs : List V) (us : List Value) (ks : List NestedKey), DqAll H vs ps → Vals vs us → nks ps = some ks → NestedAll s.heap ks us
  | [], _, _, ks, h, r, e => by cases h; cases r; cases e; exact .nil
  | p :: ps, _, _, ks, h, r, e => by
    cases h with
    | cons h1 h2 =>
      cases r with
      | cons r1 r2 =>
        unfold nks at e
        split at e
        · rename_i k ks' e1 e2
          cases e
          exact .cons (key_at I p _ _ _ h1 r1 e1) (keys_at I ps _ _ _ h2 r2 e2)
        · cases e
end
end
/-- a key that may stand in a table -/
def KeyOk (p : PyData) (k : NestedKey) : Prop := nk p = some k ∧ k.depth ≤ 8
def getTab (w : World) : F2
  | .ref a, .dat (.tuple ps), M, Q => ∃ kvs k d, M a = some (.tab w kvs) ∧ KeyOk (.tuple ps) k ∧ tabGet kvs k = some d ∧ Q (.dat d) M
  | _, _, _, _ => False
def setTab (w : World) : FSet := fun o i v M Q => match o, i, v with
  | .ref a, .dat (.tuple ps), .dat v => ∃ kvs k, M a = some (.tab w kvs) ∧ KeyOk (.tuple ps) k ∧ kvs.length < 16777216 ∧ Q (updM M a (.tab w (tabPut kvs k (.tuple ps) v)))
  | _, _, _ => False
def dNewTab (w : World) : DE := fun _ M Q => ∀ p, M p = none → Q (.ref p) (updM M p (.tab w []))
def dGetTab (w : World) (to ti : DE) : DE := dOp (getTab w) to ti
/-- list(t): the keys -/
def listTab (w : World) : FC
  | [.ref a], M, Q => ∃ kvs, M a = some (.tab w kvs) ∧ kvs.length ≤ 16777216 ∧ Q (.dat (.list (kvs.map (·.1)))) M
  | _, _, _ => False
section
variable {X : Cx} {S : Hid} {M : Mp} {H : Hp} {a : Addr} {kvs : List (PyData × PyData)} {pins : List (Addr × Obj)} {σ : L2.St} {s : Shared}
theorem row_is (I : Inv X pins σ H s) {xs : List (NestedKey × Addr × Value)} (r : Paired (TabRow (Imm M S H)) xs kvs) : ∀ x ∈ xs, (nestedKind X.prog X.w).is s.heap x.1 x.2.1 := by
  induction r with
  | nil => intro x hx; cases hx
  | @cons y q ps qs hh t ih =>
    intro x hx
    rcases List.mem_cons.mp hx with e | e
    · subst e
      exact ⟨key_at I _ _ _ _ (Dq_mono imm_sub _ _ hh.2.1) rfl hh.1.1, hh.1.2⟩
    · exact ih x e
theorem at_tab (I : Inv X pins σ H s) (m : RepM S M H) (e : M a = some (.tab X.w kvs)) : ∃ xs, H a = some (TabO X.w a xs) ∧ Paired (TabRow (Imm M S H)) xs kvs ∧ (a == sysModules) = false ∧ s.heap.DictOfH (nestedKind X.prog X.w) a xs := by
  obtain ⟨xs, h1, h2⟩ := m.obj a _ e
  obtain ⟨⟨q1, q2, o, es, ep, p1, p2, p3, p4⟩, _, _⟩ := I.hok a _ h1
  exact ⟨xs, h1, h2, q1, o, es, ep, p1, p2, p3, p4, row_is I h2, q2⟩
theorem tab_new {P : Program} {w : World} {h' : Heap} {H' : Hp} {xs : List (NestedKey × Addr × Value)} (ns : (a == sysModules) = false) (h : h'.DictOfH (nestedKind P w) a xs) : ObjOk P w H' h' a (TabO w a xs) := by
  obtain ⟨o, es, ep, p1, p2, p3, p4, p5, p6⟩ := h
  refine ⟨⟨ns, p6, o, es, ep, p1, p2, p3, p4⟩, ⟨o, p1⟩, fun h1 h2 ⟨q1, q2, o, es, ep, p1, p2, p3, p4⟩ k => ⟨q1, q2, o, es, ep, k _ p1, p2, p3, p4⟩⟩
theorem room8 {A : Around} (hu : A.units + 65 < cLine) : (nestedKind X.prog X.w).room A.in1 := by
  show A.in1.units + 8 < cLine
  have : A.in1.units ≤ A.units + 1 := by first | exact Nat.le_refl _ | simp [Around.in1]
  omega
variable {o i e : Expr} {to ti tx : DE} {pos apos cpos p p2 : Pos}
theorem q_newTab : QE X (.Dict [] [] pos) (dNewTab X.w) := ⟨fun pins s σ H Q I ⟨S, δ, M, Qd, r, h, k⟩ => by
  have hp := I.hok.fresh (Nat.le_refl s.heap.objs.size)
  have ns : (s.heap.objs.size == sysModules) = false := beq_eq_false_iff_ne.mpr (Nat.ne_of_gt I.big)
  have I1 := I.laid (a := s.heap.objs.size) (o := TabO X.w s.heap.objs.size []) (h' := s.heap.push { cls := .type "dict", data := .dict #[] }) (t' := s.toks) (fun _ _ q => Heap.get?_push_of_some _ q) (Nat.le_refl _)
    (tab_new (P := X.prog) ns (Heap.DictOfH.new s.heap))
  obtain ⟨m1, g1⟩ := r.m.newM (o := .tab X.w []) (u := TabO X.w s.heap.objs.size []) hp ⟨[], upd_same, .nil⟩
  exact wpAny_Dict_empty ⟨.ref s.heap.objs.size, _, I1, rfl, k _ _ _ _ g1 m1 dvR (h _ (r.m.free hp))⟩⟩
theorem i_tab (hu : X.A.units + 65 < cLine) {v u : Value} {x y : V} {Q : VK} {dx dy : D} {Qd : DK} {E : Value → Shared → Prop} (I : Inv X pins σ H s) (rx : RelV x v) (ry : RelV y u) (m : RepM S M H) (hx : DV (Imm M S H) x dx) (hy : DV (Imm M S H) y dy) (h : getTab X.w dx dy M Qd) (k : Fin S M H Qd Q) :
    s.TypeIs v "dict" ∧ wpAny (model X.prog X.w) X.A (getItem v u) (fun w' s' => ∃ z H', Inv X pins σ H' s' ∧ RelV z w' ∧ Q z H') E s := by
  unfold getTab at h
  split at h
  · rename_i a ps
    obtain ⟨kvs, kk, d, ea, ok, ed, q⟩ := h
    cases (show x = .ref a from hx)
    cases rx
    obtain ⟨xs, h1, h2, ns, dd⟩ := at_tab I m ea
    obtain ⟨b, zs, rfl, hb, db⟩ := dv_tup hy
    cases ry
    have hkey : (nestedKind X.prog X.w).is s.heap kk b := ⟨key_at I _ _ _ _ (Dq_mono imm_sub _ _ hy) rfl ok.1, ok.2⟩
    rcases tab_get h2 kk with ⟨e1, _⟩ | ⟨d', pr, e1, e2, z, r1, r2⟩
    · rw [ed] at e1; cases e1
    · rw [ed] at e1; cases e1
      exact ⟨dd.typeIs, wpAny_getItem_heap (room8 hu) hkey dd e2 ⟨z, H, I.tok _, r1, k.here (d := .dat d) m r2 q⟩⟩
  · exact h.elim
theorem q_getTab (hu : X.A.units + 65 < cLine) (ho : QE X o to) (hi : QE X i ti) (hs : NoSl i := by intro _ _; rfl) : QE X (.Subscript o i pos) (dGetTab X.w to ti) := ⟨fun pins s σ H Q I ⟨S, δ, M, Qd, r, h, k⟩ =>
  subD_of PySem.F.slot_dict_getitem.lookup hs (thn (ho.run pins s σ H (fun ov H1 => ∃ o M1, Grow M H M1 H1 ∧ RepM S M1 H1 ∧ DV (Imm M1 S H1) ov o ∧ ti δ M1 fun i M2 => getTab X.w o i M2 Qd) I ⟨S, δ, M, _, r, h, fun o M1 ov H1 g1 m1 r1 q1 => ⟨o, M1, g1, m1, r1, q1⟩⟩)
    fun u s1 ⟨ov, H1, I1, rx, o, M1, g1, m1, r1, q1⟩ =>
      thn (hi.run pins s1 σ H1 (fun iv H2 => ∃ i M2, Grow M1 H1 M2 H2 ∧ RepM S M2 H2 ∧ DV (Imm M2 S H2) iv i ∧ getTab X.w o i M2 Qd) I1 ⟨S, δ, M1, _, r.grow g1 m1, q1, fun i M2 iv H2 g2 m2 r2 q2 => ⟨i, M2, g2, m2, r2, q2⟩⟩)
        fun iv s2 ⟨y, H2, I2, ry, i, M2, g2, m2, r2, q2⟩ => i_tab hu I2 rx ry m2 (r1.mono (g2.imm S)) r2 q2 (k.grow (g1.trans g2)))⟩
theorem p_setTab (hu : X.A.units + 65 < cLine) : PSet X (liftSet (setTab X.w)) := by
  rintro pins s σ H o i v ov iv u Q I ro ri rv ⟨S, M, dox, di, dv, Kd, m, ho, hi, hv, h, k⟩
  unfold setTab at h
  split at h
  · rename_i a ps v'
    obtain ⟨kvs, kk, ea, ok, hl, q⟩ := h
    cases (show o = .ref a from ho)
    cases ro
    obtain ⟨xs, h1, h2, ns, dd⟩ := at_tab I m ea
    obtain ⟨b, zs, rfl, hb, db⟩ := dv_tup hi
    cases ri
    have hkey : (nestedKind X.prog X.w).is s.heap kk b := ⟨key_at I _ _ _ _ (Dq_mono imm_sub _ _ hi) rfl ok.1, ok.2⟩
    have hl2 := Paired.length h2
    refine wpAny_setItem_heap (hsz := by rw [sizeLine_eq, hl2]; omega) (room8 hu) hkey dd fun h' dd' hs => ?_
    obtain ⟨m1, g1⟩ := m.put (o := .tab X.w (tabPut kvs kk (.tuple ps) v')) (u := TabO X.w a (storedH xs kk b u)) (by rw [ea]; rfl) ⟨_, upd_same, tab_put h2 ok hi rv hv⟩
    refine ⟨_, I.write (e := a) (t' := s.toks + (nestedKind X.prog X.w).draws kk) (by rw [h1]; trivial) (.inl rfl) (fun c q hc e => (hs.2 c hc).trans e) ?_ (tab_new ns dd'), k _ _ g1 m1 q⟩
    obtain ⟨o, _, _, e, _⟩ := dd'
    exact ⟨o, e⟩
  · exact h.elim
/-- the keys as they are walked -/
theorem src_tab {P : Program} {w : World} {xs : List (NestedKey × Addr × Value)} {es : Array DictEntry} {ep : Nat} (ns : (a == sysModules) = false) (hx : ∀ i (hi : i < es.size), ∃ y, xs[i]? = some y ∧ es[i].key = .ref y.2.1 ∧ es[i].val = y.2.2) :
    PySem.W.KdlSrc P w "dict" a a es.size (fun i v => ∃ y, xs[i]? = some y ∧ v = .ref y.2.1) (fun h => h.DictRaw a es ep) where
  type := fun s hm => hm.typeIs
  there := fun h ⟨o, ho, _⟩ => ⟨Heap.lt_size ho, Heap.lt_size ho⟩
  keep := fun _ _ hm hk => hm.at fun o e => hk a (.inl rfl) o e
  notList := by decide
  notTuple := by decide
  hint := fun _ _ _ _ hm hq => PySem.W.kdl_hint_dict hm.typeIs hq
  iter := fun _ s hh hm => by
    have lt : a < s.heap.objs.size := by obtain ⟨o, ho, _⟩ := hm; exact Heap.lt_size ho
    exact ⟨_, _, fun _ _ hq => wpAny_pyIter_dict_raw ns hm hq, Walks.keysH hh _ a (Nat.ne_of_lt lt) es ep hx, ⟨⟨_, Heap.get?_push_size _ rfl, rfl, rfl⟩, hm.at fun o e => Heap.get?_push_of_some _ e⟩⟩
theorem c_listTab (hc : X.calm = true) : CallR X (.type "list") (liftC (listTab X.w)) := by
  rintro pins s σ H vs us Q I r ⟨S, M, ds, Qd, m, rd, h, k⟩
  unfold listTab at h
  split at h
  · obtain ⟨v, rfl, rv⟩ := dvs1 rd
    rename_i a
    obtain ⟨kvs, ea, hl, q⟩ := h
    cases (show v = .ref a from rv)
    obtain ⟨u, rfl, ru⟩ := vals1 r
    cases ru
    obtain ⟨xs, h1, h2, ns, dd⟩ := at_tab I m ea
    obtain ⟨es, ep, hr, hs, he⟩ := dd.raw
    have hx : ∀ i (hi : i < es.size), ∃ y, xs[i]? = some y ∧ es[i].key = .ref y.2.1 ∧ es[i].val = y.2.2 := fun i hi => let ⟨y, e1, e2, e3, _⟩ := he i hi; ⟨y, e1, e2, e3⟩
    have hl2 := Paired.length h2
    refine PySem.W.kdl_call (src_tab (P := X.prog) (w := X.w) ns hx) (I.ok.hd hc) hr (by rw [sizeLine_eq, hs, hl2]; exact hl) fun h' tk acc c kp cell it => ?_
    have hp := I.hok.fresh (Nat.le_refl s.heap.objs.size)
    have ev : acc.toList = xs.map fun x => Value.ref x.2.1 := by
      refine List.ext_getElem? fun i => ?_
      rw [List.getElem?_map]
      rcases Nat.lt_or_ge i acc.size with z | z
      · obtain ⟨y, e1, e2⟩ := it.2 i acc[i] (by simp [z])
        rw [e1, Array.getElem?_toList, Array.getElem?_eq_getElem z, e2]; rfl
      · have e1 : acc[i]? = none := Array.getElem?_eq_none z
        have e2 : xs[i]? = none := List.getElem?_eq_none (by have := it.1; omega)
        rw [Array.getElem?_toList, e1, e2]; rfl
    have rel : ∀ (ys : List (NestedKey × Addr × Value)) (ks : List (PyData × PyData)), Paired (TabRow (Imm M S H)) ys ks → Vals (ys.map fun x => V.ref x.2.1) (ys.map fun x => Value.ref x.2.1) ∧ DqAll (Imm M S H) (ys.map fun x => V.ref x.2.1) (ks.map (·.1)) := by
      intro ys ks r
      induction r with
      | nil => exact ⟨.nil, .nil⟩
      | cons hh t ih => exact ⟨.cons rfl ih.1, .cons hh.2.1 ih.2⟩
    obtain ⟨rv, dq⟩ := rel xs kvs h2
    have I1 : Inv X pins σ (upd H s.heap.objs.size (.lst (xs.map fun x => V.ref x.2.1))) { s with heap := h', toks := tk } :=
      I.laid (t' := tk) kp (Nat.le_refl _) ⟨by rw [sizeLine_eq, List.length_map, hl2]; exact hl, acc.toList, c, by rw [ev]; exact rv, by simpa using cell⟩
    obtain ⟨m1, g1, i1⟩ := m.new hp (.lst (xs.map fun x => V.ref x.2.1))
    exact ⟨.ref s.heap.objs.size, _, I1, rfl, k _ _ _ _ g1 m1 (dv_lst_mk i1 (DqAll_mono (g1.imm S) _ _ dq)) q⟩
  · exact h.elim
end
end DL
set_option Elab.async false
set_option linter.all false
set_option maxRecDepth 100000
set_option maxHeartbeats 4000000
/-! RX6: heaps, in plain words. -/
namespace HQ
section
variable {β : Type}
/-- a strict order, its ties falling together -/
structure Ord2 (lt : β → β → Bool) : Prop where
  asym : ∀ a b, lt a b = true → lt b a = false
  le : ∀ a b c, lt b a = false → lt c b = false → lt c a = false
variable {lt : β → β → Bool} {l : List β}
theorem Ord2.irr (O : Ord2 lt) (a : β) : lt a a = false := by
  cases h : lt a a with
  | false => rfl
  | true => rw [O.asym a a h] at h; cases h
/-- what stands at i is not below what stands at j -/
def Ok (lt : β → β → Bool) (l : List β) (i j : Nat) : Prop := ∀ x y, l[i]? = some x → l[j]? = some y → lt x y = false
def IsHeap (lt : β → β → Bool) (l : List β) : Prop := ∀ i, 0 < i → Ok lt l i ((i - 1) / 2)
structure UpI (lt : β → β → Bool) (l : List β) (p : Nat) : Prop where
  rest : ∀ i, 0 < i → i ≠ p → Ok lt l i ((i - 1) / 2)
  over : ∀ c, 0 < c → (c - 1) / 2 = p → 0 < p → Ok lt l c ((p - 1) / 2)
structure DownI (lt : β → β → Bool) (l : List β) (p : Nat) : Prop where
  rest : ∀ i, 0 < i → i ≠ p → (i - 1) / 2 ≠ p → Ok lt l i ((i - 1) / 2)
  over : ∀ c, 0 < c → (c - 1) / 2 = p → 0 < p → Ok lt l c ((p - 1) / 2)
/-- i and j change places; x stood at i, y at j -/
def swp (l : List β) (i j : Nat) (x y : β) : List β := (l.set i y).set j x
theorem swp_len (i j : Nat) (x y : β) : (swp l i j x y).length = l.length := by unfold swp; simp
theorem swp_at {i j : Nat} {x y : β} (hi : l[i]? = some x) (hj : l[j]? = some y) (k : Nat) : (swp l i j x y)[k]? = if k = j then some x else if k = i then some y else l[k]? := by
  have li := (List.getElem?_eq_some_iff.mp hi).1
  have lj := (List.getElem?_eq_some_iff.mp hj).1
  unfold swp
  rw [List.getElem?_set, List.getElem?_set, List.length_set]
  by_cases e : k = j
  · rw [if_pos e.symm, if_pos lj, if_pos e]
  · have e' : ¬ j = k := fun z => e z.symm
    simp only [if_neg e, if_neg e']
    by_cases f : k = i
    · rw [if_pos f.symm, if_pos li, if_pos f]
    · have f' : ¬ i = k := fun z => f z.symm
      simp only [if_neg f, if_neg f']
theorem swp_perm {i j : Nat} {x y : β} (hi : l[i]? = some x) (hj : l[j]? = some y) : (swp l i j x y).Perm l := by
  obtain ⟨li, ei⟩ := List.getElem?_eq_some_iff.mp hi
  obtain ⟨lj, ej⟩ := List.getElem?_eq_some_iff.mp hj
  subst ei ej
  exact List.set_set_perm li lj
theorem up_swap (O : Ord2 lt) {p : Nat} {x y : β} (I : UpI lt l p) (hp : 0 < p) (hx : l[p]? = some x) (hy : l[(p - 1) / 2]? = some y) (h : lt x y = true) : UpI lt (swp l ((p - 1) / 2) p y x) ((p - 1) / 2) := by
  have at_ := swp_at hy hx
  have hq : (p - 1) / 2 < p := by omega
  generalize eq : (p - 1) / 2 = q at *
  refine ⟨fun i hi ne u v hu hv => ?_, fun c hc ec hq0 u v hu hv => ?_⟩
  · rw [at_] at hu hv
    by_cases e1 : i = p
    · subst e1
      rw [if_pos rfl] at hu
      rw [eq, if_neg (Nat.ne_of_lt hq), if_pos rfl] at hv
      cases hu; cases hv
      exact O.asym _ _ h
    · rw [if_neg e1, if_neg ne] at hu
      by_cases e2 : (i - 1) / 2 = p
      · rw [if_pos e2] at hv
        cases hv
        have := I.over i hi e2 hp
        rw [eq] at this
        exact this u _ hu hy
      · rw [if_neg e2] at hv
        by_cases e3 : (i - 1) / 2 = q
        · rw [if_pos e3] at hv
          cases hv
          have := I.rest i hi e1 u y hu (by rw [e3]; exact hy)
          exact O.le _ _ _ (O.asym _ _ h) this
        · rw [if_neg e3] at hv
          exact I.rest i hi e1 u v hu hv
  · rw [at_] at hu hv
    have n1 : (q - 1) / 2 ≠ p := by omega
    have n2 : (q - 1) / 2 ≠ q := by omega
    rw [if_neg n1, if_neg n2] at hv
    have yv := I.rest q hq0 (Nat.ne_of_lt hq) y v hy hv
    by_cases e1 : c = p
    · subst e1
      rw [if_pos rfl] at hu
      cases hu
      exact yv
    · have e2 : c ≠ q := by omega
      rw [if_neg e1, if_neg e2] at hu
      have := I.rest c hc e1 u y hu (by rw [ec]; exact hy)
      exact O.le _ _ _ yv this
theorem up_stop {p : Nat} (I : UpI lt l p) (h : 0 < p → Ok lt l p ((p - 1) / 2)) : IsHeap lt l := fun i hi => by
  by_cases e : i = p
  · subst e; exact h hi
  · exact I.rest i hi e
theorem down_swap (O : Ord2 lt) {p c : Nat} {x y : β} (I : DownI lt l p) (hc : 0 < c) (ec : (c - 1) / 2 = p) (hx : l[c]? = some x) (hy : l[p]? = some y) (least : ∀ d, 0 < d → (d - 1) / 2 = p → Ok lt l d c) : DownI lt (swp l c p x y) c := by
  have at_ := swp_at hx hy
  have hpc : p < c := by omega
  refine ⟨fun i hi n1 n2 u v hu hv => ?_, fun d hd ed h0 u v hu hv => ?_⟩
  · rw [at_] at hu hv
    rw [if_neg n2] at hv
    by_cases e1 : i = p
    · subst e1
      rw [if_pos rfl] at hu
      cases hu
      rw [if_neg (show (i - 1) / 2 ≠ i by omega)] at hv
      exact I.over c hc ec hi _ v hx hv
    · rw [if_neg e1, if_neg n1] at hu
      by_cases e2 : (i - 1) / 2 = p
      · rw [if_pos e2] at hv
        cases hv
        exact least i hi e2 u _ hu hx
      · rw [if_neg e2] at hv
        exact I.rest i hi e1 e2 u v hu hv
  · rw [at_] at hu hv
    rw [ec, if_pos rfl] at hv
    cases hv
    have e1 : d ≠ p := by omega
    have e2 : d ≠ c := by omega
    rw [if_neg e1, if_neg e2] at hu
    have := I.rest d hd e1 (by omega) u x hu (by rw [ed]; exact hx)
    exact this
theorem down_stop {p : Nat} (I : DownI lt l p) (h : l.length / 2 ≤ p) : UpI lt l p := by
  have none_ : ∀ c, 0 < c → (c - 1) / 2 = p → l[c]? = none := fun c hc ec => List.getElem?_eq_none (by omega)
  refine ⟨fun i hi ne => ?_, I.over⟩
  by_cases e : (i - 1) / 2 = p
  · intro u v hu hv
    rw [none_ i hi e] at hu; cases hu
  · exact I.rest i hi ne e
theorem least (O : Ord2 lt) (h : IsHeap lt l) {m : β} (hm : l[0]? = some m) : ∀ (i : Nat) (x : β), l[i]? = some x → lt x m = false := by
  intro i
  induction i using Nat.strongRecOn with
  | _ i ih =>
    intro x hx
    rcases Nat.eq_zero_or_pos i with e | e
    · subst e
      rw [hm] at hx; cases hx
      exact O.irr _
    · have li := (List.getElem?_eq_some_iff.mp hx).1
      have lp : (i - 1) / 2 < l.length := by omega
      have := ih ((i - 1) / 2) (by omega) l[(i - 1) / 2] (List.getElem?_eq_getElem lp)
      exact O.le _ _ _ this (h i e x _ hx (List.getElem?_eq_getElem lp))
theorem push_up (h : IsHeap lt l) (x : β) : UpI lt (l ++ [x]) l.length := by
  have out : ∀ i, l.length < i → (l ++ [x])[i]? = none := fun i hi => List.getElem?_eq_none (by rw [List.length_append, List.length_singleton]; omega)
  have inn : ∀ i, i < l.length → (l ++ [x])[i]? = l[i]? := fun i hi => List.getElem?_append_left hi
  refine ⟨fun i hi ne u v hu hv => ?_, fun c hc ec _ u v hu _ => ?_⟩
  · rcases Nat.lt_or_ge i l.length with z | z
    · rw [inn i z] at hu
      rw [inn _ (by omega)] at hv
      exact h i hi u v hu hv
    · rw [out i (by omega)] at hu; cases hu
  · rw [out c (by omega)] at hu; cases hu
theorem pop_down (h : IsHeap lt l) (x : β) : DownI lt (l.dropLast.set 0 x) 0 := by
  refine ⟨fun i hi ne np u v hu hv => ?_, fun c hc ec h0 => absurd h0 (Nat.lt_irrefl _)⟩
  rw [List.getElem?_set_ne (Ne.symm ne)] at hu
  rw [List.getElem?_set_ne (Ne.symm np)] at hv
  rw [List.getElem?_dropLast] at hu hv
  split at hu
  · split at hv
    · exact h i hi u v hu hv
    · cases hv
  · cases hu
end
end HQ
set_option Elab.async false
set_option linter.all false
set_option maxRecDepth 100000
set_option maxHeartbeats 4000000
/-! RX7: heappush, heappop of what is compared by what stands in the heap. -/
namespace RX
open PySem PySem.Spec PyProof.Rows
open L2 HQ
theorem hq_entry_sift : entryFor table "_heapq.heapify.sift" = some Builtin.«_heapq.heapify.sift» := entryFor_of_tree (by kernel_rfl)
theorem hq_plain_sift : plainId "_heapq.heapify.sift" = true := by decide +kernel
theorem hq_entry_push : entryFor table "_heapq.heappush" = some Builtin.«_heapq.heappush» := entryFor_of_tree (by kernel_rfl)
theorem hq_plain_push : plainId "_heapq.heappush" = true := by decide +kernel
theorem hq_entry_pop : entryFor table "_heapq.heappop" = some Builtin.«_heapq.heappop» := entryFor_of_tree (by kernel_rfl)
theorem hq_plain_pop : plainId "_heapq.heappop" = true := by decide +kernel
section
variable {β : Type} {P : Value → β → Prop} {lt : β → β → Bool} {xs : Array Value} {l : List β}
theorem rel_at (r : Paired P xs.toList l) {i : Nat} (h : i < xs.size) : ∃ u x, xs[i]? = some u ∧ l[i]? = some x ∧ P u x := by
  have key : ∀ {us : List Value} {l : List β} {i : Nat}, Paired P us l → i < us.length → ∃ u x, us[i]? = some u ∧ l[i]? = some x ∧ P u x := by
    intro us l i r
    induction r generalizing i with
    | nil => intro h; exact absurd h (Nat.not_lt_zero _)
    | @cons a b as bs h1 h2 ih =>
      intro h
      cases i with
      | zero => exact ⟨_, _, rfl, rfl, h1⟩
      | succ i => simpa using ih (i := i) (by simpa using h)
  obtain ⟨u, x, e1, e2, e3⟩ := key r (i := i) (by simpa using h)
  exact ⟨u, x, by rw [← Array.getElem?_toList]; exact e1, e2, e3⟩
theorem rel_len (r : Paired P xs.toList l) : xs.size = l.length := by
  have := Paired.length r
  simpa using this
theorem paired_set {us : List Value} {l : List β} (r : Paired P us l) : ∀ (i : Nat) {u : Value} {x : β}, P u x → Paired P (us.set i u) (l.set i x) := by
  induction r with
  | nil => intro i u x h; exact .nil
  | @cons a b as bs h1 h2 ih =>
    intro i u x h
    cases i with
    | zero => exact .cons h h2
    | succ i => exact .cons h1 (ih i h)
theorem rel_swp (r : Paired P xs.toList l) {i j : Nat} {u v : Value} {x y : β} (p : P u x) (q : P v y) : Paired P ((xs.setIfInBounds i v).setIfInBounds j u).toList (swp l i j x y) := by
  rw [Array.toList_setIfInBounds, Array.toList_setIfInBounds]
  exact paired_set (paired_set r i q) j p
/-- two values of the list are compared -/
def CmpV (prog : Program) (w : World) (A : Around) (G : Heap → Prop) (P : Value → β → Prop) (lt : β → β → Bool) : Prop :=
  ∀ u v x y (s : Shared) (Q E : Value → Shared → Prop), G s.heap → P u x → P v y → Q (.bool (lt x y)) s → wpAny (model prog w) A (richCompare .Lt u v) Q E s
def FirmAt (G : Heap → Prop) (a : Addr) : Prop := ∀ h h', G h → (∀ b o, b ≠ a → h.get? b = some o → h'.get? b = some o) → G h'
/-- a list's cell -/
def CellL (h : Heap) (a : Addr) (xs : Array Value) : Prop := ∃ c, h.get? a = some { cls := .type "list", dict := none, data := .seq xs c, slots := #[] }
/-- what is known of the list when all is done -/
def DoneL (lt : β → β → Bool) (P : Value → β → Prop) (a : Addr) (h : Heap) (l : List β) (h' : Heap) : Prop := ∃ xs' l', CellL h' a xs' ∧ Paired P xs'.toList l' ∧ l'.Perm l ∧ IsHeap lt l' ∧ ∀ b o, b ≠ a → h.get? b = some o → h'.get? b = some o
end
section
variable {β : Type} {P : Value → β → Prop} {lt : β → β → Bool} {G : Heap → Prop} {prog : Program} {w : World} {A : Around} {R : Result → Shared → Prop} {a : Addr} {res : Value}
theorem sift_up (O : Ord2 lt) (cmp : CmpV prog w A.in1 G P lt) (firm : FirmAt G a) : ∀ (n p : Nat) (s : Shared) (xs : Array Value) (l : List β) (t1 t2 t3 : Tok), p ≤ n → CellL s.heap a xs → G s.heap → Paired P xs.toList l → xs.size ≤ sizeLine → p < l.length → UpI lt l p →
    (∀ h', DoneL lt P a s.heap l h' → R (.ok (.ret res)) { s with heap := h' }) →
    codeAny (model prog w) A (.builtin "_heapq.heapify.sift" ⟨[.ref a, .bool false, .bool false, .int (p : Nat) t1, .int (0 : Nat) t2, res, .int (-1) t3], []⟩) R s := by
  intro n
  induction n with
  | zero =>
    intro p s xs l t1 t2 t3 hp ⟨c, cell⟩ g r hz lp I fin
    obtain rfl : p = 0 := by omega
    refine codeAny_builtin hq_entry_sift ?_
    rw [Around.under_plainId hq_plain_sift]
    unfold Builtin.«_heapq.heapify.sift»
    wp_delta
    refine wpAny_bind ?_
    wp_delta
    refine wpAny_bind (wpAny_seqItems cell rfl ?_)
    wp_delta
    refine wpAny_pure ?_
    exact wpAny_pure (fin _ ⟨xs, l, ⟨c, cell⟩, r, .refl _, up_stop I fun z => absurd z (Nat.lt_irrefl _), fun b o _ e => e⟩)
  | succ n ih =>
    intro p s xs l t1 t2 t3 hp ⟨c, cell⟩ g r hz lp I fin
    refine codeAny_builtin hq_entry_sift ?_
    rw [Around.under_plainId hq_plain_sift]
    unfold Builtin.«_heapq.heapify.sift»
    wp_delta
    refine wpAny_bind ?_
    wp_delta
    refine wpAny_bind (wpAny_seqItems cell rfl ?_)
    wp_delta
    refine wpAny_pure ?_
    rcases Nat.eq_zero_or_pos p with e0 | e0
    · subst e0
      exact wpAny_pure (fin _ ⟨xs, l, ⟨c, cell⟩, r, .refl _, up_stop I fun z => absurd z (Nat.lt_irrefl _), fun b o _ e => e⟩)
    · have sz := rel_len r
      obtain ⟨u, x, eu, ex, pu⟩ := rel_at r (i := p) (by omega)
      obtain ⟨v, y, ev, ey, pv⟩ := rel_at r (i := (p - 1) / 2) (by omega)
      dsimp only
      refine wpAny_ite_false (by decide) ?_
      refine wpAny_ite_true (by simpa using e0) ?_
      refine wpAny_bind ?_
      wp_delta
      rw [Int.toNat_natCast, eu]
      refine wpAny_pure ?_
      refine wpAny_bind ?_
      wp_delta
      rw [Int.toNat_natCast, ev]
      refine wpAny_pure ?_
      refine wpAny_ite_false (by decide) ?_
      refine wpAny_bind ?_
      wp_delta
      refine wpAny_bind (wpAny_holding (wpAny_bind (cmp u v x y s _ _ g pu pv ?_)))
      wp_delta
      refine wpAny_truthy_bool ?_
      refine wpAny_bind ?_
      wp_delta
      refine wpAny_bind (wpAny_seqItems cell rfl ?_)
      wp_delta
      refine wpAny_pure ?_
      refine wpAny_ite_false (by simp) ?_
      refine wpAny_pure ?_
      cases hb : lt x y with
      | true =>
        refine wpAny_ite_true rfl ?_
        refine wpAny_bind ?_
        wp_delta
        refine wpAny_bind ?_
        wp_delta
        refine wpAny_bind (wpAny_seqItems cell rfl ?_)
        wp_delta
        refine wpAny_pure ?_
        refine wpAny_bind ?_
        wp_delta
        rw [ev]
        refine wpAny_pure ?_
        refine wpAny_bind ?_
        wp_delta
        rw [eu]
        refine wpAny_pure ?_
        refine wpAny_updateSeq (hz := hz) (_hz' := by simp; omega) cell rfl ?_
        wp_delta
        wp_delta
        refine wpAny_pure ⟨plainId_quiet hq_plain_sift _, ?_⟩
        have cell1 := Heap.get?_update_self (Obj.mapSeq fun xs => (xs.setIfInBounds ((p - 1) / 2) u).setIfInBounds p v) cell rfl
        have oth : ∀ b o, b ≠ a → s.heap.get? b = some o → (s.heap.update a (Obj.mapSeq fun xs => (xs.setIfInBounds ((p - 1) / 2) u).setIfInBounds p v)).get? b = some o := fun b o hb e => (Heap.get?_update_other _ _ (Ne.symm hb)).trans e
        refine ih ((p - 1) / 2) _ _ (swp l ((p - 1) / 2) p y x) 0 0 0 (by omega) ⟨_, cell1⟩ (firm _ _ g oth) (rel_swp r pv pu) (by simp; omega) (by rw [swp_len]; omega) (up_swap O I e0 ex ey hb) fun h' ⟨xs', l', q1, q2, q3, q4, q5⟩ => ?_
        exact fin h' ⟨xs', l', q1, q2, q3.trans (swp_perm ey ex), q4, fun b o hb e => q5 b o hb (oth b o hb e)⟩
      | false =>
        refine wpAny_ite_false (by decide) ?_
        exact wpAny_pure (fin _ ⟨xs, l, ⟨c, cell⟩, r, .refl _, up_stop I fun _ x' y' h1 h2 => by rw [ex] at h1; rw [ey] at h2; cases h1; cases h2; exact hb, fun b o _ e => e⟩)
/-- one turn down: the lesser child (at c) and its parent change places -/
theorem sift_down (O : Ord2 lt) (cmp : CmpV prog w A.in1 G P lt) (firm : FirmAt G a) : ∀ (n p : Nat) (s : Shared) (xs : Array Value) (l : List β) (t1 t2 t3 : Tok), l.length ≤ p + n → CellL s.heap a xs → G s.heap → Paired P xs.toList l → xs.size ≤ sizeLine → p < l.length → DownI lt l p →
    (∀ h', DoneL lt P a s.heap l h' → R (.ok (.ret res)) { s with heap := h' }) →
    codeAny (model prog w) A (.builtin "_heapq.heapify.sift" ⟨[.ref a, .bool false, .bool true, .int (p : Nat) t1, .int (0 : Nat) t2, res, .int (-1) t3], []⟩) R s := by
  intro n
  induction n with
  | zero => intro p s xs l t1 t2 t3 hn _ _ _ _ lp; omega
  | succ n ih =>
    intro p s xs l t1 t2 t3 hn ⟨c, cell⟩ g r hz lp I fin
    have sz := rel_len r
    refine codeAny_builtin hq_entry_sift ?_
    rw [Around.under_plainId hq_plain_sift]
    unfold Builtin.«_heapq.heapify.sift»
    wp_delta
    refine wpAny_bind ?_
    wp_delta
    refine wpAny_bind (wpAny_seqItems cell rfl ?_)
    wp_delta
    refine wpAny_pure ?_
    dsimp only
    refine wpAny_ite_true rfl ?_
    rw [Int.toNat_natCast]
    by_cases hh : p < xs.size / 2
    · refine wpAny_ite_true (decide_eq_true hh) ?_
      have swap : ∀ (ch : Nat) (u v : Value) (x y : β), 0 < ch → (ch - 1) / 2 = p → xs[ch]? = some u → xs[p]? = some v → l[ch]? = some x → l[p]? = some y → P u x → P v y → (∀ d, 0 < d → (d - 1) / 2 = p → Ok lt l d ch) →
          codeAny (model prog w) A (.builtin "_heapq.heapify.sift" ⟨[.ref a, .bool false, .bool true, .int (ch : Nat) 0, .int (0 : Nat) 0, res, .int (-1) 0], []⟩) R { s with heap := s.heap.update a (Obj.mapSeq fun xs => (xs.setIfInBounds ch v).setIfInBounds p u) } := by
        intro ch u v x y h0 hc eu ev ex ey pu pv hl
        have cell1 := Heap.get?_update_self (Obj.mapSeq fun xs => (xs.setIfInBounds ch v).setIfInBounds p u) cell rfl
        have oth : ∀ b o, b ≠ a → s.heap.get? b = some o → (s.heap.update a (Obj.mapSeq fun xs => (xs.setIfInBounds ch v).setIfInBounds p u)).get? b = some o := fun b o hb e => (Heap.get?_update_other _ _ (Ne.symm hb)).trans e
        have lc := (List.getElem?_eq_some_iff.mp ex).1
        refine ih ch _ _ (swp l ch p x y) 0 0 0 (by rw [swp_len]; omega) ⟨_, cell1⟩ (firm _ _ g oth) (rel_swp r pu pv) (by simp; omega) (by rw [swp_len]; omega) (down_swap O I h0 hc ex ey hl) fun h' ⟨xs', l', q1, q2, q3, q4, q5⟩ => ?_
        exact fin h' ⟨xs', l', q1, q2, q3.trans (swp_perm ex ey), q4, fun b o hb e => q5 b o hb (oth b o hb e)⟩
      obtain ⟨v, y, ev, ey, pv⟩ := rel_at r (i := p) (by omega)
      obtain ⟨u, x, eu, ex, pu⟩ := rel_at r (i := 2 * p + 1) (by omega)
      by_cases h2 : 2 * p + 1 + 1 < xs.size
      · obtain ⟨u2, x2, eu2, ex2, pu2⟩ := rel_at r (i := 2 * p + 1 + 1) h2
        refine wpAny_ite_true (decide_eq_true h2) ?_
        refine wpAny_bind ?_
        wp_delta
        rw [eu]
        refine wpAny_pure ?_
        refine wpAny_bind ?_
        wp_delta
        rw [eu2]
        refine wpAny_pure ?_
        refine wpAny_ite_false (by decide) ?_
        refine wpAny_bind ?_
        wp_delta
        refine wpAny_bind (wpAny_holding (wpAny_bind (cmp u u2 x x2 s _ _ g pu pu2 ?_)))
        wp_delta
        refine wpAny_truthy_bool ?_
        refine wpAny_bind ?_
        wp_delta
        refine wpAny_bind (wpAny_seqItems cell rfl ?_)
        wp_delta
        refine wpAny_pure ?_
        refine wpAny_ite_false (by simp) ?_
        refine wpAny_pure ?_
        cases hb : lt x x2 with
        | true =>
          refine wpAny_ite_false (by decide) ?_
          refine wpAny_bind ?_
          wp_delta
          refine wpAny_bind ?_
          wp_delta
          refine wpAny_bind (wpAny_seqItems cell rfl ?_)
          wp_delta
          refine wpAny_pure ?_
          refine wpAny_bind ?_
          wp_delta
          rw [eu]
          refine wpAny_pure ?_
          refine wpAny_bind ?_
          wp_delta
          rw [ev]
          refine wpAny_pure ?_
          refine wpAny_updateSeq (hz := hz) (_hz' := by simp; omega) cell rfl ?_
          wp_delta
          wp_delta
          refine wpAny_pure ⟨plainId_quiet hq_plain_sift _, swap (2 * p + 1) u v x y (by omega) (by omega) eu ev ex ey pu pv fun d hd ed a b h1 h3 => ?_⟩
          rw [ex] at h3; cases h3
          rcases (show d = 2 * p + 1 ∨ d = 2 * p + 1 + 1 by omega) with e | e
          · subst e; rw [ex] at h1; cases h1; exact O.irr _
          · subst e; rw [ex2] at h1; cases h1; exact O.asym _ _ hb
        | false =>
          refine wpAny_ite_true (by decide) ?_
          refine wpAny_bind ?_
          wp_delta
          refine wpAny_bind ?_
          wp_delta
          refine wpAny_bind (wpAny_seqItems cell rfl ?_)
          wp_delta
          refine wpAny_pure ?_
          refine wpAny_bind ?_
          wp_delta
          rw [eu2]
          refine wpAny_pure ?_
          refine wpAny_bind ?_
          wp_delta
          rw [ev]
          refine wpAny_pure ?_
          refine wpAny_updateSeq (hz := hz) (_hz' := by simp; omega) cell rfl ?_
          wp_delta
          wp_delta
          refine wpAny_pure ⟨plainId_quiet hq_plain_sift _, swap (2 * p + 1 + 1) u2 v x2 y (by omega) (by omega) eu2 ev ex2 ey pu2 pv fun d hd ed a b h1 h3 => ?_⟩
          rw [ex2] at h3; cases h3
          rcases (show d = 2 * p + 1 ∨ d = 2 * p + 1 + 1 by omega) with e | e
          · subst e; rw [ex] at h1; cases h1; exact hb
          · subst e; rw [ex2] at h1; cases h1; exact O.irr _
      · refine wpAny_ite_false (decide_eq_false h2) ?_
        refine wpAny_bind ?_
        wp_delta
        refine wpAny_bind ?_
        wp_delta
        refine wpAny_bind (wpAny_seqItems cell rfl ?_)
        wp_delta
        refine wpAny_pure ?_
        refine wpAny_bind ?_
        wp_delta
        rw [eu]
        refine wpAny_pure ?_
        refine wpAny_bind ?_
        wp_delta
        rw [ev]
        refine wpAny_pure ?_
        refine wpAny_updateSeq (hz := hz) (_hz' := by simp; omega) cell rfl ?_
        wp_delta
        wp_delta
        refine wpAny_pure ⟨plainId_quiet hq_plain_sift _, swap (2 * p + 1) u v x y (by omega) (by omega) eu ev ex ey pu pv fun d hd ed a b h1 h3 => ?_⟩
        rw [ex] at h3; cases h3
        rcases (show d = 2 * p + 1 ∨ d = 2 * p + 1 + 1 by omega) with e | e
        · subst e; rw [ex] at h1; cases h1; exact O.irr _
        · subst e
          rw [List.getElem?_eq_none (by omega)] at h1
          cases h1
    · refine wpAny_ite_false (decide_eq_false hh) ?_
      wp_delta
      wp_delta
      refine wpAny_pure ⟨plainId_quiet hq_plain_sift _, ?_⟩
      exact sift_up O cmp firm p p s xs l 0 0 0 (Nat.le_refl _) ⟨c, cell⟩ g r hz lp (down_stop I (by omega)) fin
theorem hq_kind_push : builtinKind "_heapq.heappush" = none := by decide +kernel
theorem hq_kind_pop : builtinKind "_heapq.heappop" = none := by decide +kernel
theorem hq_args_push (u v : Value) : argsOk "_heapq.heappush" ⟨[u, v], []⟩ := by unfold argsOk; kernel_rfl
theorem hq_args_pop (u : Value) : argsOk "_heapq.heappop" ⟨[u], []⟩ := by unfold argsOk; kernel_rfl
theorem hq_list : isSubtype (.type "list") (.type "list") = pure true := by rw [isSubtype_type]; kernel_rfl
theorem call_push {E Q : Value → Shared → Prop} (O : Ord2 lt) (cmp : CmpV prog w A.in1 G P lt) (firm : FirmAt G a) {s : Shared} {xs : Array Value} {l : List β} {u : Value} {x : β} (cell : CellL s.heap a xs) (g : G s.heap) (r : Paired P xs.toList l) (hz : xs.size < sizeLine) (hp : IsHeap lt l) (pu : P u x)
    (fin : ∀ h', DoneL lt P a s.heap (l ++ [x]) h' → Q .none { s with heap := h' }) : wpAny (model prog w) A (call (.builtin "_heapq.heappush") [.ref a, u]) Q E s := by
  obtain ⟨c, cell⟩ := cell
  have sz := rel_len r
  have ty : s.TypeIs (.ref a) "list" := ⟨_, cell, rfl⟩
  refine call_function_tree hq_kind_push hq_plain_push hq_entry_push (hq_args_push _ _) ?_
  unfold Builtin.«_heapq.heappush»
  refine wpAny_bind ?_
  wp_delta
  refine wpAny_bind ?_
  wp_delta
  refine wpAny_ite_true rfl ?_
  refine wpAny_pure ?_
  refine wpAny_bind ?_
  wp_delta
  refine wpAny_ite_false rfl ?_
  refine wpAny_ite_false rfl ?_
  refine wpAny_ite_false rfl ?_
  refine wpAny_pure ?_
  wp_delta
  refine wpAny_bind ?_
  wp_delta
  refine wpAny_bind (wpAny_isInstance ty hq_list ?_)
  refine wpAny_ite_true rfl ?_
  wp_delta
  refine wpAny_pure ?_
  refine wpAny_pure ?_
  wp_delta
  refine wpAny_bind (wpAny_updateSeq (hz := by omega) (_hz' := by simp; omega) cell rfl ?_)
  have cell1 := Heap.get?_update_self (Obj.mapSeq fun xs => xs.push u) cell rfl
  have oth : ∀ b o, b ≠ a → s.heap.get? b = some o → (s.heap.update a (Obj.mapSeq fun xs => xs.push u)).get? b = some o := fun b o hb e => (Heap.get?_update_other _ _ (Ne.symm hb)).trans e
  refine wpAny_bind ?_
  wp_delta
  refine wpAny_bind (wpAny_seqItems cell1 rfl ?_)
  wp_delta
  refine wpAny_pure ?_
  wp_delta
  wp_delta
  refine wpAny_pure ⟨plainId_quiet hq_plain_sift _, ?_⟩
  have es : (xs.push u).size - 1 = l.length := by simp [sz]
  rw [es]
  refine sift_up (R := _) O cmp firm l.length l.length _ (xs.push u) (l ++ [x]) 0 0 0 (Nat.le_refl _) ⟨_, cell1⟩ (firm _ _ g oth) (by rw [Array.toList_push]; exact Paired.snoc r pu) (by rw [Array.size_push]; omega) (by simp) (push_up hp x) fun h' ⟨xs', l', q1, q2, q3, q4, q5⟩ => ?_
  exact fin h' ⟨xs', l', q1, q2, q3, q4, fun b o hb e => q5 b o hb (oth b o hb e)⟩
theorem call_pop {E Q : Value → Shared → Prop} (O : Ord2 lt) (cmp : CmpV prog w A.in1 G P lt) (firm : FirmAt G a) {s : Shared} {xs : Array Value} {l : List β} (cell : CellL s.heap a xs) (g : G s.heap) (r : Paired P xs.toList l) (hz : xs.size ≤ sizeLine) (hp : IsHeap lt l) (ne : l ≠ [])
    (fin : ∀ u x m h', P u x → (x :: m).Perm l → (∀ y ∈ l, lt y x = false) → DoneL lt P a s.heap m h' → Q u { s with heap := h' }) : wpAny (model prog w) A (call (.builtin "_heapq.heappop") [.ref a]) Q E s := by
  obtain ⟨c, cell⟩ := cell
  have sz := rel_len r
  have ty : s.TypeIs (.ref a) "list" := ⟨_, cell, rfl⟩
  have hl : 0 < l.length := List.length_pos_iff.mpr ne
  obtain ⟨u, x, eu, ex, pu⟩ := rel_at r (i := 0) (by omega)
  obtain ⟨v, y, ev, ey, pv⟩ := rel_at r (i := xs.size - 1) (by omega)
  have low : ∀ z ∈ l, lt z x = false := fun z hz => by
    obtain ⟨i, hi, rfl⟩ := List.getElem_of_mem hz
    exact least O hp ex i _ (List.getElem?_eq_getElem hi)
  have back : xs.back? = some v := by rw [Array.back?_eq_getElem?]; exact ev
  refine call_function_tree hq_kind_pop hq_plain_pop hq_entry_pop (hq_args_pop _) ?_
  unfold Builtin.«_heapq.heappop»
  wp_delta
  refine wpAny_bind ?_
  wp_delta
  refine wpAny_bind ?_
  wp_delta
  refine wpAny_bind ?_
  wp_delta
  refine wpAny_ite_true rfl ?_
  refine wpAny_pure ?_
  wp_delta
  refine wpAny_pure ?_
  refine wpAny_bind ?_
  wp_delta
  refine wpAny_bind (wpAny_isInstance ty hq_list ?_)
  refine wpAny_ite_true rfl ?_
  wp_delta
  refine wpAny_pure ?_
  refine wpAny_pure ?_
  wp_delta
  refine wpAny_bind ?_
  wp_delta
  refine wpAny_bind (wpAny_seqItems cell rfl ?_)
  wp_delta
  refine wpAny_pure ?_
  rw [back]
  wp_delta
  refine wpAny_bind (wpAny_updateSeq (hz := hz) (_hz' := by simp; omega) cell rfl ?_)
  have cell1 := Heap.get?_update_self (Obj.mapSeq fun xs => xs.pop) cell rfl
  have oth : ∀ b o, b ≠ a → s.heap.get? b = some o → (s.heap.update a (Obj.mapSeq fun xs => xs.pop)).get? b = some o := fun b o hb e => (Heap.get?_update_other _ _ (Ne.symm hb)).trans e
  by_cases h1 : xs.size = 1
  · refine wpAny_ite_true (by simp [h1]) ?_
    have el : l = [x] := by
      match l, hl, ex, (show l.length = 1 by omega) with
      | [z], _, ex, _ => cases ex; rfl
    have e0 : xs.size - 1 = 0 := by omega
    rw [e0, eu] at ev
    cases ev
    refine wpAny_pure ?_
    refine fin u x [] _ pu (by rw [el]) low ⟨_, [], ⟨_, cell1⟩, ?_, .refl _, fun i hi a b h => by simp at h, oth⟩
    rw [show (xs.pop).toList = [] from by simp [h1, ← List.length_eq_zero_iff]]
    exact .nil
  · refine wpAny_ite_false (by simp [h1]) ?_
    refine wpAny_bind ?_
    wp_delta
    rw [eu]
    refine wpAny_pure ?_
    refine wpAny_bind (wpAny_updateSeq (hz := by simp; omega) (_hz' := by simp; omega) cell1 rfl ?_)
    have cell2 := Heap.get?_update_self (Obj.mapSeq fun xs => xs.setIfInBounds 0 v) cell1 rfl
    have oth2 : ∀ b o, b ≠ a → s.heap.get? b = some o → ((s.heap.update a (Obj.mapSeq fun xs => xs.pop)).update a (Obj.mapSeq fun xs => xs.setIfInBounds 0 v)).get? b = some o := fun b o hb e => (Heap.get?_update_other _ _ (Ne.symm hb)).trans (oth b o hb e)
    wp_delta
    wp_delta
    refine wpAny_pure ⟨plainId_quiet hq_plain_sift _, ?_⟩
    have rp : Paired P xs.pop.toList l.dropLast := by
      rw [Array.toList_pop]
      have key : ∀ {us : List Value} {l : List β}, Paired P us l → Paired P us.dropLast l.dropLast := by
        intro us l r
        induction r with
        | nil => exact .nil
        | @cons a b as bs h1 h2 ih =>
          cases h2 with
          | nil => exact .nil
          | cons h3 h4 => exact .cons h1 ih
      exact key r
    refine sift_down (R := _) O cmp firm (l.dropLast.set 0 y).length 0 _ _ (l.dropLast.set 0 y) 0 0 0 (by omega) ⟨_, cell2⟩ (firm _ _ g oth2) (by rw [Array.toList_setIfInBounds]; exact paired_set rp 0 pv) (by simp; omega) (by simp; omega) (pop_down hp y) fun h' ⟨xs', l', q1, q2, q3, q4, q5⟩ => ?_
    refine fin u x (l.dropLast.set 0 y) h' pu ?_ low ⟨xs', l', q1, q2, q3, q4, fun b o hb e => q5 b o hb (oth2 b o hb e)⟩
    match l, hl, sz, ex, ey, (show 1 < l.length by omega) with
    | z0 :: z2 :: t, _, sz, ex, ey, _ =>
      obtain rfl : z0 = x := by simpa using ex
      show (z0 :: y :: (z2 :: t).dropLast).Perm (z0 :: z2 :: t)
      refine .cons _ ?_
      have : (z2 :: t).getLast (by simp) = y := by
        rw [List.getLast_eq_getElem]
        have e2 : (z0 :: z2 :: t)[xs.size - 1]? = some y := ey
        rw [sz] at e2
        simpa using (List.getElem?_eq_some_iff.mp e2).2
      have e3 := List.dropLast_concat_getLast (l := z2 :: t) (by simp)
      rw [this] at e3
      have p1 : ((z2 :: t).dropLast ++ [y]).Perm (y :: (z2 :: t).dropLast) := List.perm_append_singleton _ _
      rw [e3] at p1
      exact p1.symm
end
end RX
set_option Elab.async false
set_option linter.all false
set_option maxRecDepth 100000
set_option maxHeartbeats 4000000
/-! RX8: heappush, heappop of (int, tree, int) by data. -/
namespace DL
open PySem PySem.Spec PyProof.Rows L2

abbrev Tre := List (Str × Int)
def symP (z : Str × Int) : PyData := .tuple [.str z.1, .int z.2]
def treP (t : Tre) : PyData := .tuple (t.map symP)
abbrev Ent := Int × Tre × Int
def entP (e : Ent) : PyData := .tuple [.int e.1, treP e.2.1, .int e.2.2]
def entLt (e f : Ent) : Bool := W.dataLt (entP e) (entP f)
theorem symP_alike (x y : Str × Int) : W.alike (symP x) (symP y) = true := by simp [symP, W.alike, W.alikeAll]
theorem treP_alikes : ∀ s t : Tre, W.alikeAll (s.map symP) (t.map symP) = true
  | [], _ => by simp [W.alikeAll]
  | _ :: _, [] => by simp [W.alikeAll]
  | x :: xs, y :: ys => by
    rw [List.map_cons, List.map_cons, W.alikeAll, symP_alike, treP_alikes xs ys]; rfl
theorem treP_alike (s t : Tre) : W.alike (treP s) (treP t) = true := by rw [treP, treP, W.alike]; exact treP_alikes s t
theorem entP_alike (e f : Ent) : W.alike (entP e) (entP f) = true := by
  simp only [entP, W.alike, W.alikeAll, treP_alike, Bool.and_true]
theorem depthsAll_le (n : Nat) : ∀ ps : List PyData, (∀ p ∈ ps, PyData.depth p ≤ n) → PyData.depthAll ps ≤ n
  | [], _ => by simp [PyData.depthAll]
  | p :: ps, h => by
    have h1 := h p List.mem_cons_self
    have h2 := depthsAll_le n ps fun q hq => h q (List.mem_cons_of_mem _ hq)
    simp only [PyData.depthAll]
    omega
theorem symP_depth (z : Str × Int) : PyData.depth (symP z) ≤ 5 := by simp [symP, PyData.depth, PyData.depthAll]
theorem treP_depth (t : Tre) : PyData.depth (treP t) ≤ 6 := by
  have := depthsAll_le 5 (t.map symP) fun p hp => by
    obtain ⟨z, _, rfl⟩ := List.mem_map.mp hp
    exact symP_depth z
  simp only [treP, PyData.depth]
  omega
theorem entP_depth (e : Ent) : PyData.depth (entP e) ≤ 10 := by
  have := treP_depth e.2.1
  simp only [entP, PyData.depth, PyData.depthAll]
  omega
theorem ent_ord : HQ.Ord2 entLt where
  asym := fun a b h => by
    have := KeyOrd.klt_asymm (O := PyProof.Rows.listOrd PyProof.Rows.itemOrd) (show (PyProof.Rows.listOrd PyProof.Rows.itemOrd).klt (W.keyToks (entP a)) (W.keyToks (entP b)) from h)
    exact this
  le := fun a b c h1 h2 => KeyOrd.kle_trans (O := PyProof.Rows.listOrd PyProof.Rows.itemOrd) (a := W.keyToks (entP a)) (b := W.keyToks (entP b)) (c := W.keyToks (entP c)) h1 h2
abbrev entD (e : Ent) : D := .dat (entP e)
/-- heappush(q, e) -/
def pushC : FC
  | [.ref a, .dat p], M, Q => ∃ es e, M a = some (.lst (es.map entD)) ∧ p = entP e ∧ es.length < 16777216 ∧ HQ.IsHeap entLt es ∧ ∀ fs, fs.Perm (es ++ [e]) → HQ.IsHeap entLt fs → Q (.dat .none) (updM M a (.lst (fs.map entD)))
  | _, _, _ => False
/-- heappop(q) -/
def popC : FC
  | [.ref a], M, Q => ∃ es, M a = some (.lst (es.map entD)) ∧ es ≠ [] ∧ HQ.IsHeap entLt es ∧ ∀ e fs, (e :: fs).Perm es → (∀ f ∈ es, entLt f e = false) → HQ.IsHeap entLt fs → Q (entD e) (updM M a (.lst (fs.map entD)))
  | _, _, _ => False
mutual
/-- atoms and tuples alone lean on no list -/
theorem flat_reads : ∀ {h : Heap} (p : PyData) (u : Value) (as : List Addr), noList p = true → Reads h u p as → as = []
  | _, .none, _, _, _, r => by cases r; rfl
  | _, .bool b, _, _, _, r => by cases r; rfl
  | _, .int i, _, _, _, r => by cases r; rfl
  | _, .str x, _, _, _, r => by cases r; rfl
  | _, .list ds, _, _, n, r => by cases n
  | _, .tuple ds, _, _, n, r => by
    cases r with
    | tuple h1 h2 h3 h4 => exact flats_read ds _ _ n h4
  | _, .dict _, _, _, n, r => by cases n
theorem flats_read : ∀ {h : Heap} (ps : List PyData) (us : List Value) (as : List Addr), noLists ps = true → ReadsAll h us ps as → as = []
  | _, [], _, _, _, r => by cases r; rfl
  | _, p :: ps, _, _, n, r => by
    have n' : noList p = true ∧ noLists ps = true := Bool.and_eq_true_iff.mp (show (noList p && noLists ps) = true from n)
    cases r with
    | cons r1 r2 => rw [flat_reads p _ _ n'.1 r1, flats_read ps _ _ n'.2 r2]; rfl
end
theorem noLists_map {α : Type} (f : α → PyData) (h : ∀ a, noList (f a) = true) : ∀ l : List α, noLists (l.map f) = true
  | [] => rfl
  | a :: l => by
    show (noList (f a) && noLists (l.map f)) = true
    rw [h a, noLists_map f h l]; rfl
theorem treP_flat (t : Tre) : noList (treP t) = true := noLists_map symP (fun _ => rfl) t
theorem entP_flat (e : Ent) : noList (entP e) = true := by
  show (true && (noList (treP e.2.1) && (true && true))) = true
  rw [treP_flat]; rfl
section
variable {X : Cx} {pins : List (Addr × Obj)} {σ : L2.St} {H HI : Hp} {s : Shared} {a : Addr}
/-- a value is this entry -/
def EntAt (HI : Hp) (u : Value) (e : Ent) : Prop := ∃ x, RelV x u ∧ Dq HI x (entP e)
theorem ents_at : ∀ {vs : List V} {us : List Value} {es : List Ent}, Vals vs us → DVs HI vs (es.map entD) → Paired (EntAt HI) us es
  | [], _, [], r, _ => by cases r; exact .nil
  | [], _, _ :: _, _, h => by cases h
  | _ :: _, _, [], _, h => by cases h
  | _ :: _, _, e :: es, r, h => by
    cases r with
    | cons r1 r2 =>
      cases h with
      | cons h1 h2 => exact .cons ⟨_, r1, h1⟩ (ents_at r2 h2)
theorem at_ents : ∀ {us : List Value} {es : List Ent}, Paired (EntAt HI) us es → ∃ vs, Vals vs us ∧ DVs HI vs (es.map entD)
  | _, _, .nil => ⟨[], .nil, .nil⟩
  | _, _, .cons h t => by
    obtain ⟨x, r, d⟩ := h
    obtain ⟨vs, rs, ds⟩ := at_ents t
    exact ⟨x :: vs, .cons r rs, .cons d ds⟩
theorem cmp_ents (I : Inv X pins σ H s) (hu : X.A.units + 64 < cLine) (sub : Same HI H) (ha : ∀ o, s.heap.get? a = some o → o.cls = .type "list") :
    RX.CmpV X.prog X.w X.A.in1 (fun h => ∀ b o, b ≠ a → s.heap.get? b = some o → h.get? b = some o) (EntAt HI) entLt := by
  have rd : ∀ (h : Heap) u e, (∀ b o, b ≠ a → s.heap.get? b = some o → h.get? b = some o) → EntAt HI u e → ∃ as, Reads h u (entP e) as := by
    rintro h u e kp ⟨x, r, d⟩
    obtain ⟨as, ra⟩ := Dp.reads (X := X) I _ x u (Dq_dp _ _ (Dq_mono sub _ _ d)) r
    have e0 := flat_reads _ _ _ (entP_flat e) ra
    subst e0
    exact ⟨_, W.Reads.keepBut kp ha _ _ _ (entP_alike e e) ra (by simp)⟩
  intro u v x y s2 Q E g pu pv q
  obtain ⟨as, r1⟩ := rd s2.heap u x g pu
  obtain ⟨bs, r2⟩ := rd s2.heap v y g pv
  refine W.rcLt_alike _ _ X.A.in1 s2 u v as bs r1 r2 (entP_alike _ _) (by intro z; cases z) ?_ _ _ _ _ q
  have : X.A.in1.units = X.A.units + 1 := rfl
  have := entP_depth x
  have := entP_depth y
  omega
theorem firm_ents : RX.FirmAt (fun h => ∀ b o, b ≠ a → s.heap.get? b = some o → h.get? b = some o) a := fun _ _ g kp b o hb e => kp b o hb (g b o hb e)
/-- the list as it stands when all is done -/
theorem heap_done {S : Hid} {M : Mp} {vs : List V} {ds : List D} {es : List Ent} {h' : Heap} (I : Inv X pins σ H s) (m : RepM S M H) (ea : M a = some (.lst ds)) (hx : H a = some (.lst vs)) (hl : es.length ≤ 16777216) (h : RX.DoneL entLt (EntAt (Imm M S H)) a s.heap es h') :
    ∃ fs H', fs.Perm es ∧ HQ.IsHeap entLt fs ∧ Inv X pins σ H' { s with heap := h' } ∧ RepM S (updM M a (.lst (fs.map entD))) H' ∧ Grow M H (updM M a (.lst (fs.map entD))) H' := by
  obtain ⟨xs', fs, ⟨c, cell⟩, r, pm, hp, oth⟩ := h
  obtain ⟨ws, rv, dv⟩ := at_ents r
  obtain ⟨m1, g1⟩ := m.put (o := .lst (fs.map entD)) (u := .lst ws) (by rw [ea]; rfl) ⟨ws, upd_same, dv⟩
  have lw : ws.length = fs.length := by rw [DVs_len dv, List.length_map]
  refine ⟨fs, upd H a (.lst ws), pm, hp, I.write (e := a) (t' := s.toks) (by rw [hx]; trivial) (.inl rfl) (fun b u hb e => oth b u hb e) ⟨_, cell⟩ ⟨?_, xs'.toList, c, rv, by simpa using cell⟩, m1, g1⟩
  rw [sizeLine_eq, lw, pm.length_eq]
  exact hl
theorem c_push (hu : X.A.units + 64 < cLine) : CallR X (.builtin "_heapq.heappush") (liftC pushC) := by
  rintro pins s σ H vs us Q I r ⟨S, M, ds, Qd, m, rd, h, k⟩
  unfold pushC at h
  split at h
  · rename_i a p
    obtain ⟨es, e, ea, rfl, hl, hp, q⟩ := h
    obtain ⟨v, w, rfl, rv, rw'⟩ := dvs2 rd
    cases (show v = .ref a from rv)
    obtain ⟨u1, u2, rfl, ru1, ru2⟩ := vals2 r
    cases ru1
    obtain ⟨zs, h1, h2⟩ := m.obj a _ ea
    obtain ⟨z, its, n, rl, hlt, cell⟩ := I.lstM h1
    have hz : its.toArray.size < sizeLine := by
      have e1 := rl.length
      have e2 := DVs_len h2
      rw [List.length_map] at e2
      rw [sizeLine_eq, List.size_toArray]
      omega
    refine RX.call_push (G := _) ent_ord (cmp_ents I hu imm_sub fun o eo => ?_) firm_ents ⟨n, cell⟩ (fun b o _ e => e) (by simpa using ents_at rl h2) hz hp ⟨w, ru2, rw'⟩ fun h' dn => ?_
    · rw [cell] at eo; cases eo; rfl
    · obtain ⟨fs, H', pm, hp', I', m', g'⟩ := heap_done I m ea h1 (by rw [List.length_append, List.length_singleton]; omega) dn
      exact ⟨.non, H', I', rfl, k _ _ _ _ g' m' dvN (q fs pm hp')⟩
  · exact h.elim
theorem c_pop (hu : X.A.units + 64 < cLine) : CallR X (.builtin "_heapq.heappop") (liftC popC) := by
  rintro pins s σ H vs us Q I r ⟨S, M, ds, Qd, m, rd, h, k⟩
  unfold popC at h
  split at h
  · rename_i a
    obtain ⟨es, ea, ne, hp, q⟩ := h
    obtain ⟨v, rfl, rv⟩ := dvs1 rd
    cases (show v = .ref a from rv)
    obtain ⟨u1, rfl, ru1⟩ := vals1 r
    cases ru1
    obtain ⟨zs, h1, h2⟩ := m.obj a _ ea
    obtain ⟨z, its, n, rl, hlt, cell⟩ := I.lstM h1
    have le : es.length ≤ 16777216 := by
      have e1 := rl.length
      have e2 := DVs_len h2
      rw [List.length_map] at e2
      rw [sizeLine_eq] at z
      omega
    have hz : its.toArray.size ≤ sizeLine := by
      have e1 := rl.length
      rw [List.size_toArray]
      omega
    refine RX.call_pop (G := _) ent_ord (cmp_ents I hu imm_sub fun o eo => ?_) firm_ents ⟨n, cell⟩ (fun b o _ e => e) (by simpa using ents_at rl h2) hz hp ne fun u e fs h' pu pm low dn => ?_
    · rw [cell] at eo; cases eo; rfl
    · have lf : fs.length ≤ 16777216 := by have := pm.length_eq; rw [List.length_cons] at this; omega
      obtain ⟨gs, H', pm', hp', I', m', g'⟩ := heap_done I m ea h1 lf dn
      obtain ⟨x, rx, dx⟩ := pu
      exact ⟨x, H', I', rx, k (entD e) _ _ _ g' m' (Dq_mono (g'.imm S) _ _ dx) (q e gs ((List.Perm.cons e pm').trans pm) low hp')⟩
  · exact h.elim
variable {x : Str} {p pos : Pos} {e : Expr} {es : List Expr} {ta : DA} {id : String} {f : FC}
/-- a call of what the module took from another -/
theorem q_callG (hc : CallR X (.builtin id) (liftC f)) (hg : Gl X x) (hm : X.mg x = some (.builtin id)) (ha : QA X (e :: es) ta) (hdb : (x == ("__debug__" : Str)) = false := by decide)
    (he : starEach (e :: es) X.env = (false, eval e X.env) :: starEach es X.env := by rfl) (hpl : (backTo pos (starEach es X.env)).any (·.1) = false := by rfl) : QE X (.Call (.Name x p) (e :: es) [] pos) (dCB f ta) :=
  PE_imp (StS.pe_callG hc hg hm ha hdb he hpl) fun _ _ _ => tCB_lift
end
end DL
set_option Elab.async false
set_option linter.all false
set_option maxRecDepth 100000
set_option maxHeartbeats 4000000
/-! RXg: tuples parted, list(zip(..)), while an exception is handled. -/
namespace RX
open PySem PySem.Spec PyProof.Rows
open L2
section
variable {prog : Program} {w : World} {A : Around} {E : Value → Shared → Prop} {s : Shared} {x1 : Addr}
theorem hot_kept {h h' : Heap} (hot : HotX.HotAt A x1 h) (k : ∀ o, h.get? x1 = some o → h'.get? x1 = some o) : HotX.HotAt A x1 h' := by
  obtain ⟨h1, o, vs, h2, h3⟩ := hot
  exact ⟨h1, o, vs, k o h2, h3⟩
/-- a StopIteration is made and raised -/
theorem stop_hot {α : Type} {Q : α → Shared → Prop} (hot : HotX.HotAt A x1 s.heap)
    (hE : ∀ h' e, (∀ b o, s.heap.get? b = some o → h'.get? b = some o) → (∃ o, h'.get? e = some o ∧ o.cls = .type "StopIteration") → E (.ref e) { s with heap := h' }) : wpAny (model prog w) A (bind (newExc (.type "StopIteration") []) (fun e => raiseNew e) : Sem α) Q E s := by
  obtain ⟨hh, o1, vs1, h1, d1, c1⟩ := hot
  refine wpAny_bind ?_
  simp only [newExc, newTuple]
  refine wpAny_bind (wpAny_newObj_type ?_ (by size_fits))
  refine wpAny_bind (m := firstArgMember _ _) (wpAny_of_eq (a := Value.none) (by first | rfl | (simp only [firstArgMember]; rfl)) ?_)
  refine wpAny_newObj_type ?_ (by size_fits)
  have old : ∀ b o, s.heap.get? b = some o → ((s.heap.push { cls := .type "tuple", data := .seq #[] }).push { cls := .type "StopIteration", data := .fields #[.ref s.heap.objs.size, .none, .none, .none, .bool false, .none] }).get? b = some o := fun b o e => Heap.get?_push_of_some _ (Heap.get?_push_of_some _ e)
  refine HotX.raiseNew_hot ⟨hh, o1, vs1, Heap.get?_push_of_some _ (Heap.get?_push_of_some _ h1), d1, c1⟩ (Nat.ne_of_lt (Heap.lt_size (Heap.get?_push_of_some _ h1))) (Heap.get?_push_size _ rfl) rfl (by first | (simp; done) | (simp; omega) | (simp only [Array.size_append]; simp; omega)) ?_
  refine hE _ _ (fun b o e => ?_) ⟨_, Heap.get?_update_self _ (Heap.get?_push_size _ rfl) rfl, rfl⟩
  rw [Heap.get?_update_other _ _ (Nat.ne_of_gt (Heap.lt_size (Heap.get?_push_of_some _ e)))]
  exact Heap.get?_push_of_some _ (Heap.get?_push_of_some _ e)
theorem tup_end_body {it t : Addr} {i : Nat} {items : Array Value} {Q : Fin → Shared → Prop} (hot : HotX.HotAt A x1 s.heap) (ne : x1 ≠ it) (hit : s.heap.IsTupleIter it t i) (ht : s.heap.IsTuple t items) (hx : items[i]? = none)
    (hE : ∀ h' e, Heap.ExtBut it s.heap h' → (∃ o, h'.get? e = some o ∧ o.cls = .type "StopIteration") → E (.ref e) { s with heap := h' }) : wpAny (model prog w) A (Builtin.«tuple_iterator.__next__» ⟨[.ref it], []⟩) Q E s := by
  obtain ⟨o, ho, hc, hd⟩ := id hit
  obtain ⟨ol, hol, _, nl, hdl⟩ := ht
  change wpAny _ _ (bind (field (.ref it) 0) _) _ _ s
  refine wpAny_bind (wpAny_field ho hd (x := .ref t) rfl ?_)
  change wpAny _ _ (if (Value.ref t == Value.none) = true then _ else _) _ _ s
  rw [if_neg (show ¬ ((Value.ref t == Value.none) = true) from Bool.false_ne_true)]
  change wpAny _ _ (bind (field (.ref it) 1) _) _ _ s
  refine wpAny_bind (wpAny_field ho hd (x := .int i 0) rfl ?_)
  change wpAny _ _ (bind (seqItems? (.ref t)) _) _ _ s
  refine wpAny_bind (wpAny_seqItems hol hdl ?_)
  simp only [Int.toNat_natCast, hx]
  refine wpAny_bind (wpAny_rule (wpAny_bind (wpAny_setField ho hd (by simp) ?_)))
  have oth : ∀ b o', b ≠ it → s.heap.get? b = some o' → (s.heap.update it (Obj.mapFields (·.setIfInBounds 0 Value.none))).get? b = some o' := fun b o' n e => (Heap.get?_update_other _ _ (Ne.symm n)).trans e
  exact stop_hot (hot_kept hot fun o' e => oth x1 o' ne e) fun h' e kp he => hE h' e (fun b o' n e' => kp b o' (oth b o' n e')) he
theorem next_tup_end {it t : Addr} {i : Nat} {items : Array Value} {Q : Option Value → Shared → Prop} (hot : HotX.HotAt A x1 s.heap) (ne : x1 ≠ it) (hit : s.heap.IsTupleIter it t i) (ht : s.heap.IsTuple t items) (hx : items[i]? = none)
    (fin : ∀ h', Heap.ExtBut it s.heap h' → Q none { s with heap := h' }) : wpAny (model prog w) A (pyNext (.ref it)) Q E s := by
  unfold pyNext
  refine wpAny_bind (wpAny_attempt (wpAny_callSpecial?_slot (name := Str.ofString "__next__") hit.typeIs F.slot_tuple_iterator_next (wpAny_call_entry F.slot_tuple_iterator_next hit.typeIs F.entry_tuple_iterator_next
    (tup_end_body (A := A.in1) hot ne hit ht hx fun h' e ext ⟨o, ho, hc⟩ => ?_) (F.args_tuple_iterator_next_1 _))))
  exact wpAny_bind (wpAny_isInstance (T := "StopIteration") (b := true) ⟨o, ho, hc⟩ isSubtype_stop (wpAny_pure (fin _ ext)))
theorem nextOf_tup_end {it t : Addr} {i : Nat} {items : Array Value} {Q : Value → Shared → Prop} (hot : HotX.HotAt A x1 s.heap) (ne : x1 ≠ it) (hit : s.heap.IsTupleIter it t i) (ht : s.heap.IsTuple t items) (hx : items[i]? = none)
    (hE : ∀ h' e, Heap.ExtBut it s.heap h' → (∃ o, h'.get? e = some o ∧ o.cls = .type "StopIteration") → E (.ref e) { s with heap := h' }) : wpAny (model prog w) A (Builtin.SmallTypes.nextOf (.ref it)) Q E s := by
  unfold Builtin.SmallTypes.nextOf
  exact wpAny_bind (wpAny_callSpecial?_slot (name := Str.ofString "__next__") hit.typeIs F.slot_tuple_iterator_next (wpAny_call_entry F.slot_tuple_iterator_next hit.typeIs F.entry_tuple_iterator_next (tup_end_body (A := A.in1) hot ne hit ht hx hE) (F.args_tuple_iterator_next_1 _)))
/-- a, b = t -/
theorem unpack_items {t : Addr} {items : Array Value} {Q : List Value → Shared → Prop} (hot : HotX.HotAt A x1 s.heap) (ht : s.heap.IsTuple t items) (fin : ∀ h', Heap.ExtBut s.heap.objs.size s.heap h' → Q items.toList { s with heap := h' }) : wpAny (model prog w) A (unpackItems (.ref t) items.size none) Q E s := by
  have lt : t ≠ s.heap.objs.size := by obtain ⟨o, ho, _⟩ := ht; exact Nat.ne_of_lt (Heap.lt_size ho)
  have lx : x1 < s.heap.objs.size := by obtain ⟨_, o, _, ho, _⟩ := hot; exact Heap.lt_size ho
  unfold unpackItems notIterableAtAll
  refine wpAny_bind (wpAny_bind (wpAny_specialOf ht.typeIs F.slot_tuple_iter.lookup (wpAny_pure ?_)))
  simp only [Bool.false_eq_true, if_false]
  refine wpAny_bind (wpAny_holding (wpAny_pyIter_tuple ht ?_))
  refine wpAny_bind (wpAny_holding (wpAny_draw_tuple lt items.size 0 _ _ ⟨_, Heap.get?_push_size _ rfl, rfl, rfl⟩ (ht.push _) (by omega) fun h1 it1 sb1 => ?_))
  rw [List.drop_zero, List.take_of_length_le (by simp), if_neg (by simp)]
  refine wpAny_bind (wpAny_holding (next_tup_end (hot_kept hot fun o e => sb1.extBut x1 o (Nat.ne_of_lt lx) (Heap.get?_push_of_some _ e)) (Nat.ne_of_lt lx) it1 ((ht.push _).extBut sb1.extBut lt) (by simp) fun h2 e2 => ?_))
  simp only [Option.isSome_none, Bool.false_eq_true, if_false]
  exact wpAny_pure (fin h2 fun b o n e => e2 b o n (sb1.extBut b o n (Heap.get?_push_of_some _ e)))
end
end RX
namespace DL
open PySem PySem.Spec PyProof.Rows L2
section
variable {X : Cx} {pos : Pos} {vs : List Nat}
theorem pg_tupH {es : List Expr} {k : Nat} {t : TGs} {n : Nat} (hc : L2H.HotC X) (h : PGs X es t) (hn : (assignEach es X.env).length = n := by rfl) (hst : (assignEach es X.env).findIdx? (·.1) = none := by rfl) : PG X (.Tuple es k pos) (gTup X.K n t) := ⟨fun pins s σ H v u Q I r ⟨a, xs, e1, hq, hl, hw⟩ => by
  subst e1
  cases r
  obtain ⟨its, rv, ht, hz⟩ := I.tuple hq
  obtain ⟨x1, hot⟩ := hc.at I
  rw [assign_Tuple]
  refine wpAny_bind (wpAny_standAt ?_)
  unfold unpack
  have el : (assignEach es X.env).length = its.toArray.size := by simp [hn, ← hl, rv.length]
  rw [hst]
  show wpAny _ _ (bind (holding [Value.ref a] (unpackItems (.ref a) (assignEach es X.env).length none)) _) _ _ _
  rw [el]
  refine wpAny_bind (wpAny_holding (RX.unpack_items hot (show s.heap.IsTuple a its.toArray from ht) fun h' ext => ?_))
  exact h.run pins _ σ H xs _ Q (I.kept (t' := s.toks) fun b o e => ext b o (Nat.ne_of_lt (Heap.lt_size e)) e) (by simpa using rv) hw⟩
theorem qg_tupH {es : List Expr} {k : Nat} {g : DGs} {n : Nat} (hc : L2H.HotC X) (h : QGs X es vs g) (hn : (assignEach es X.env).length = n := by rfl) (hst : (assignEach es X.env).findIdx? (·.1) = none := by rfl) : QG X (.Tuple es k pos) vs (dTupG n g) := PG_imp (pg_tupH hc h hn hst) fun v σ H Q ⟨S, d, δ, M, Qd, r, rv, h, k⟩ => by
  unfold dTupG at h
  split at h
  · obtain ⟨a, xs, rfl, ha, da⟩ := dv_tup rv
    exact ⟨a, xs, rfl, .of (imm_sub _ _ ha), by rw [da.length]; exact h.1, S, _, δ, M, Qd, r, da.dvs, h.2, k⟩
  · exact h.elim
end
end DL
set_option Elab.async false
set_option linter.all false
set_option maxRecDepth 100000
set_option maxHeartbeats 4000000
/-! RX9: list(zip(a, b)) of two tuples. -/
namespace RX
open PySem PySem.Spec PyProof.Rows
open L2
section
variable {prog : Program} {w : World} {A : Around} {E : Value → Shared → Prop} {s : Shared} {z TI TO T i1 i2 : Addr} {f : Bool} {oT : Obj} {fp1 fp2 : List Addr} {n1 n2 i : Nat} {P1 P2 : Nat → Value → Prop} {St1 St2 : Nat → Heap → Prop}
/-- the next pair, while the tuple that was given out is still held -/
theorem held_body {Q : Value → Shared → Prop} (S : ZipSep2 z TI TO i1 i2 fp1 fp2) (D1 : Draws prog w A i1 fp1 n1 P1 St1) (D2 : Draws prog w A i2 fp2 n2 P2 St2) (held : IsZipHeld s.heap z TI TO T f) (hT : s.heap.get? T = some oT) (hTI : IsTupOf2 s.heap TI (.ref i1) (.ref i2))
    (st1 : St1 i s.heap) (st2 : St2 i s.heap) (l1 : i < n1) (l2 : i < n2)
    (fin : ∀ x y h' tk, P1 i x → P2 i y → IsZipHeld h' z TI TO T true → St1 (i + 1) h' → St2 (i + 1) h' → IsTupOf2 h' s.heap.objs.size x y → (∀ c o, c ≠ z → c ≠ i1 → c ≠ i2 → s.heap.get? c = some o → h'.get? c = some o) → Q (.ref s.heap.objs.size) { s with heap := h', toks := tk }) :
    wpAny (model prog w) A (Builtin.«zip.__next__» ⟨[.ref z], []⟩) (fun r s' => ∃ v, r = .done (.ret v) ∧ Q v s') E s := by
  obtain ⟨hp, g, d, tk0, os⟩ := s
  change wpAny _ _ (bind (field (.ref z) 2) _) _ _ _
  refine wpAny_bind (wpAny_field held rfl (x := .bool false) rfl ?_)
  change wpAny _ _ (bind (field (.ref z) 3) _) _ _ _
  refine wpAny_bind (wpAny_field held rfl (x := .ref TI) rfl (wpAny_bind (wpAny_seqItems hTI rfl ?_)))
  change wpAny _ _ (bind (Builtin.SmallTypes.ownedTupleIsFree (.ref z)) _) _ _ _
  refine wpAny_bind (wpAny_tupleHeld_zip held hT fun h1 z1 k1 => ?_)
  replace z1 : IsZipHeld h1 z TI TO T true := z1
  replace k1 : Heap.SameBut z hp h1 := k1
  simp only [Bool.false_eq_true, if_false]
  refine wpAny_bind ?_
  rw [← Array.forIn_toList]
  simp only [List.forIn_cons, List.forIn_nil]
  refine wpAny_bind (wpAny_bind (wpAny_holding ?_))
  change wpAny _ _ (bind (Builtin.SmallTypes.nextOf (.ref i1)) _) _ _ ⟨h1, g, d, tk0, os⟩
  refine wpAny_bind (D1.item i ⟨h1, g, d, tk0, os⟩ _ _ l1 (D1.over st1 k1 S.zf1) fun x h2 tk1 px q1 k2 => wpAny_pure (wpAny_pure ?_))
  replace k2 : Heap.SameBut i1 h1 h2 := k2
  refine wpAny_bind (wpAny_bind (wpAny_holding ?_))
  change wpAny _ _ (bind (Builtin.SmallTypes.nextOf (.ref i2)) _) _ _ ⟨h2, g, d, tk1, os⟩
  refine wpAny_bind (D2.item i ⟨h2, g, d, tk1, os⟩ _ _ l2 (D2.over (D2.over st2 k1 S.zf2) k2 S.sep1_2) fun y h3 tk2 py q2 k3 => wpAny_pure (wpAny_pure (wpAny_pure ?_)))
  replace k3 : Heap.SameBut i2 h2 h3 := k3
  change wpAny _ _ (bind (newTuple [x, y]) _) _ _ ⟨h3, g, d, tk2, os⟩
  refine wpAny_bind (wpAny_newTuple (wpAny_pure ⟨_, rfl, ?_⟩))
  have sz : h3.objs.size = hp.objs.size := by rw [k3.1, k2.1, k1.1]
  have up : ∀ c o, h3.get? c = some o → (h3.push { cls := .type "tuple", data := .seq #[x, y] }).get? c = some o := fun c o e => Heap.get?_push_of_some _ e
  have new : IsTupOf2 (h3.push { cls := .type "tuple", data := .seq #[x, y] }) h3.objs.size x y := Heap.get?_push_size _ rfl
  have fin' := fin x y (h3.push { cls := .type "tuple", data := .seq #[x, y] }) tk2 px py (up _ _ (k3.extBut _ _ S.zi2 (k2.extBut _ _ S.zi1 z1))) (D1.frame _ _ _ (D1.over q1 k3 S.sep2_1) fun b _ o e => up b o e) (D2.frame _ _ _ q2 fun b _ o e => up b o e)
    (by show IsTupOf2 _ hp.objs.size x y; rw [← sz]; exact new) fun c o c1 c2 c3 e => up c o (k3.extBut _ _ c3 (k2.extBut _ _ c2 (k1.extBut _ _ c1 e)))
  change Q (.ref hp.objs.size) _ at fin'
  rw [← sz] at fin'
  exact fin'
theorem held_over {Q : Fin → Shared → Prop} (S : ZipSep2 z TI TO i1 i2 fp1 fp2) (D1 : Draws prog w A i1 fp1 n1 P1 St1) (D2 : Draws prog w A i2 fp2 n2 P2 St2) (held : IsZipHeld s.heap z TI TO T f) (hT : s.heap.get? T = some oT) (hTI : IsTupOf2 s.heap TI (.ref i1) (.ref i2))
    (st1 : St1 i s.heap) (st2 : St2 i s.heap) (l1 : i ≤ n1) (l2 : i ≤ n2) (end_ : i = n1 ∨ i = n2)
    (fin : ∀ h' tk e, (∀ c o, c ≠ z → c ≠ i1 → c ≠ i2 → s.heap.get? c = some o → h'.get? c = some o) → (∃ o, h'.get? e = some o ∧ o.cls = .type "StopIteration") → E (.ref e) { s with heap := h', toks := tk }) :
    wpAny (model prog w) A (Builtin.«zip.__next__» ⟨[.ref z], []⟩) Q E s := by
  obtain ⟨hp, g, d, tk0, os⟩ := s
  change wpAny _ _ (bind (field (.ref z) 2) _) _ _ _
  refine wpAny_bind (wpAny_field held rfl (x := .bool false) rfl ?_)
  change wpAny _ _ (bind (field (.ref z) 3) _) _ _ _
  refine wpAny_bind (wpAny_field held rfl (x := .ref TI) rfl (wpAny_bind (wpAny_seqItems hTI rfl ?_)))
  change wpAny _ _ (bind (Builtin.SmallTypes.ownedTupleIsFree (.ref z)) _) _ _ _
  refine wpAny_bind (wpAny_tupleHeld_zip held hT fun h1 z1 k1 => ?_)
  replace k1 : Heap.SameBut z hp h1 := k1
  simp only [Bool.false_eq_true, if_false]
  refine wpAny_bind ?_
  rw [← Array.forIn_toList]
  simp only [List.forIn_cons, List.forIn_nil]
  refine wpAny_bind (wpAny_bind (wpAny_holding ?_))
  change wpAny _ _ (bind (Builtin.SmallTypes.nextOf (.ref i1)) _) _ _ ⟨h1, g, d, tk0, os⟩
  by_cases c1 : i < n1
  · refine wpAny_bind (D1.item i ⟨h1, g, d, tk0, os⟩ _ _ c1 (D1.over st1 k1 S.zf1) fun x h2 tk1 px q1 k2 => wpAny_pure (wpAny_pure ?_))
    replace k2 : Heap.SameBut i1 h1 h2 := k2
    refine wpAny_bind (wpAny_bind (wpAny_holding ?_))
    change wpAny _ _ (bind (Builtin.SmallTypes.nextOf (.ref i2)) _) _ _ ⟨h2, g, d, tk1, os⟩
    have e2 : i = n2 := by omega
    refine wpAny_bind (D2.done ⟨h2, g, d, tk1, os⟩ _ _ (by rw [← e2]; exact D2.over (D2.over st2 k1 S.zf2) k2 S.sep1_2) fun q e hq he => ?_)
    exact fin q tk1 e (fun c o a1 a2 a3 e => hq _ _ a3 (k2.extBut _ _ a2 (k1.extBut _ _ a1 e))) he
  · have e1 : i = n1 := by omega
    refine wpAny_bind (D1.done ⟨h1, g, d, tk0, os⟩ _ _ (by rw [← e1]; exact D1.over st1 k1 S.zf1) fun q e hq he => ?_)
    exact fin q tk0 e (fun c o a1 a2 a3 e => hq _ _ a2 (k1.extBut _ _ a1 e)) he
theorem held_item {Q : Option Value → Shared → Prop} (S : ZipSep2 z TI TO i1 i2 fp1 fp2) (D1 : Draws prog w A.in1 i1 fp1 n1 P1 St1) (D2 : Draws prog w A.in1 i2 fp2 n2 P2 St2) (held : IsZipHeld s.heap z TI TO T f) (hT : s.heap.get? T = some oT) (hTI : IsTupOf2 s.heap TI (.ref i1) (.ref i2))
    (st1 : St1 i s.heap) (st2 : St2 i s.heap) (l1 : i < n1) (l2 : i < n2)
    (fin : ∀ x y h' tk, P1 i x → P2 i y → IsZipHeld h' z TI TO T true → St1 (i + 1) h' → St2 (i + 1) h' → IsTupOf2 h' s.heap.objs.size x y → (∀ c o, c ≠ z → c ≠ i1 → c ≠ i2 → s.heap.get? c = some o → h'.get? c = some o) → Q (some (.ref s.heap.objs.size)) { s with heap := h', toks := tk }) :
    wpAny (model prog w) A (pyNext (.ref z)) Q E s := by
  have ty : s.TypeIs (.ref z) "zip" := ⟨_, held, rfl⟩
  unfold pyNext
  exact wpAny_bind (wpAny_attempt (wpAny_callSpecial?_slot (name := Str.ofString "__next__") ty F.slot_zip_next (wpAny_call_entry F.slot_zip_next ty F.entry_zip_next
    (held_body S D1 D2 held hT hTI st1 st2 l1 l2 fun x y h' tk a1 a2 a3 a4 a5 a6 a7 => wpAny_pure (fin x y h' tk a1 a2 a3 a4 a5 a6 a7)) (F.args_zip_next_1 _))))
theorem held_end {Q : Option Value → Shared → Prop} (S : ZipSep2 z TI TO i1 i2 fp1 fp2) (D1 : Draws prog w A.in1 i1 fp1 n1 P1 St1) (D2 : Draws prog w A.in1 i2 fp2 n2 P2 St2) (held : IsZipHeld s.heap z TI TO T f) (hT : s.heap.get? T = some oT) (hTI : IsTupOf2 s.heap TI (.ref i1) (.ref i2))
    (st1 : St1 i s.heap) (st2 : St2 i s.heap) (l1 : i ≤ n1) (l2 : i ≤ n2) (end_ : i = n1 ∨ i = n2)
    (fin : ∀ h' tk, (∀ c o, c ≠ z → c ≠ i1 → c ≠ i2 → s.heap.get? c = some o → h'.get? c = some o) → Q none { s with heap := h', toks := tk }) : wpAny (model prog w) A (pyNext (.ref z)) Q E s := by
  have ty : s.TypeIs (.ref z) "zip" := ⟨_, held, rfl⟩
  unfold pyNext
  refine wpAny_bind (wpAny_attempt (wpAny_callSpecial?_slot (name := Str.ofString "__next__") ty F.slot_zip_next (wpAny_call_entry F.slot_zip_next ty F.entry_zip_next
    (held_over S D1 D2 held hT hTI st1 st2 l1 l2 end_ fun h' tk e kp ⟨o, ho, hc⟩ => ?_) (F.args_zip_next_1 _))))
  exact wpAny_bind (wpAny_isInstance (T := "StopIteration") (b := true) ⟨o, ho, hc⟩ isSubtype_stop (wpAny_pure (fin _ _ kp)))
end
/-- nothing is handled; or x1 is, its context is None -/
def Air (hd : Option Value) (xs : List Addr) (h : Heap) : Prop := (hd = none ∧ xs = []) ∨ ∃ x1, xs = [x1] ∧ hd = some (.ref x1) ∧ ∃ (o : Obj) (vs : Array Value), h.get? x1 = some o ∧ o.data = .fields vs ∧ vs[2]? = some .none
theorem Air.kept {hd : Option Value} {xs : List Addr} {h h' : Heap} (a : Air hd xs h) (k : ∀ x ∈ xs, ∀ o, h.get? x = some o → h'.get? x = some o) : Air hd xs h' := by
  rcases a with q | ⟨x1, rfl, e, o, vs, q1, q2⟩
  · exact .inl q
  · exact .inr ⟨x1, rfl, e, o, vs, k x1 List.mem_cons_self o q1, q2⟩
theorem Air.lt {hd : Option Value} {xs : List Addr} {h : Heap} (a : Air hd xs h) : ∀ x ∈ xs, x < h.objs.size := by
  rcases a with ⟨_, rfl⟩ | ⟨x1, rfl, _, o, vs, q1, _⟩
  · intro x hx; cases hx
  · intro x hx; cases List.mem_singleton.mp hx; exact Heap.lt_size q1
theorem draws_air {prog : Program} {w : World} {A : Around} (xs : List Addr) (it t : Addr) (hne : t ≠ it) (hx : it ∉ xs) (items : Array Value) :
    Draws prog w A it (it :: t :: xs) items.size (fun i v => items[i]? = some v) (fun i h => (h.IsTupleIter it t i ∧ h.IsTuple t items) ∧ Air A.handled xs h) where
  live := fun _ _ st => let ⟨o, ho, _⟩ := st.1.1; ⟨o, ho⟩
  frame := fun _ _ _ st hk => ⟨⟨st.1.1.at fun o e => hk it (by simp) o e, st.1.2.at fun o e => hk t (by simp) o e⟩, st.2.kept fun x hx o e => hk x (by simp [hx]) o e⟩
  item := fun i s Q E hi st hQ => by
    refine wpAny_nextOf_tuple_item st.1.1 st.1.2 (x := items[i]) (by simp [hi]) fun h' hit' hs' => ?_
    exact hQ _ h' s.toks (by simp [hi]) ⟨⟨hit', st.1.2.extBut hs'.extBut hne⟩, st.2.kept fun x hx' o e => hs'.extBut x o (fun z => hx (z ▸ hx')) e⟩ hs'
  done := fun s Q E st hE => by
    rcases st.2 with ⟨hh, _⟩ | ⟨x1, rfl, hh, o, vs, q1, q2⟩
    · exact wpAny_nextOf_tuple_end hh st.1.1 st.1.2 (by simp) hE
    · exact nextOf_tup_end ⟨hh, o, vs, q1, q2⟩ (fun z => hx (by simp [z])) st.1.1 st.1.2 (by simp) hE
/-- the cells of a zip of two tuples at turn i -/
structure ZS (hd : Option Value) (xs : List Addr) (h : Heap) (z TI TO i1 i2 a b : Addr) (us ws : Array Value) (i : Nat) : Prop where
  out : (IsZip h z TI TO .none ∧ ∃ a1 a2, IsTupOf2 h TO a1 a2) ∨ ∃ T f oT, IsZipHeld h z TI TO T f ∧ h.get? T = some oT ∧ oT.cls = .type "tuple"
  pair : IsTupOf2 h TI (.ref i1) (.ref i2)
  s1 : h.IsTupleIter i1 a i ∧ h.IsTuple a us
  s2 : h.IsTupleIter i2 b i ∧ h.IsTuple b ws
  air : Air hd xs h
theorem ZS.kept {hd : Option Value} {xs : List Addr} {h h' : Heap} {z TI TO i1 i2 a b S : Addr} {us ws : Array Value} {i : Nat} (Z : ZS hd xs h z TI TO i1 i2 a b us ws i) (hS : ∀ o, h.get? S = some o → o.cls = .type "list" ∧ ∀ vs, o.data ≠ .fields vs) (kp : ∀ c o, c ≠ S → h.get? c = some o → h'.get? c = some o) : ZS hd xs h' z TI TO i1 i2 a b us ws i := by
  have ne : ∀ c o, h.get? c = some o → o.cls ≠ .type "list" → h'.get? c = some o := fun c o e n => kp c o (fun q => n (hS o (q ▸ e)).1) e
  have l1 : ∀ {x : String}, x ≠ "list" → (Value.type x) ≠ .type "list" := fun n e => n (Value.type.inj e)
  refine ⟨?_, ne _ _ Z.pair (l1 (by decide)), ⟨?_, ?_⟩, ⟨?_, ?_⟩, ?_⟩
  · rcases Z.out with ⟨e1, a1, a2, e2⟩ | ⟨T, f, oT, e1, e2, e3⟩
    · exact .inl ⟨ne _ _ e1 (l1 (by decide)), a1, a2, ne _ _ e2 (l1 (by decide))⟩
    · exact .inr ⟨T, f, oT, ne _ _ e1 (l1 (by decide)), ne _ _ e2 (by rw [e3]; exact l1 (by decide)), e3⟩
  · obtain ⟨o, e, c, d⟩ := Z.s1.1; exact ⟨o, ne _ _ e (by rw [c]; exact l1 (by decide)), c, d⟩
  · obtain ⟨o, e, c, d⟩ := Z.s1.2; exact ⟨o, ne _ _ e (by rw [c]; exact l1 (by decide)), c, d⟩
  · obtain ⟨o, e, c, d⟩ := Z.s2.1; exact ⟨o, ne _ _ e (by rw [c]; exact l1 (by decide)), c, d⟩
  · obtain ⟨o, e, c, d⟩ := Z.s2.2; exact ⟨o, ne _ _ e (by rw [c]; exact l1 (by decide)), c, d⟩
  · rcases Z.air with q | ⟨x1, q0, q1, o, vs, q2, q3, q4⟩
    · exact .inl q
    · exact .inr ⟨x1, q0, q1, o, vs, kp x1 o (fun z => (hS o (z ▸ q2)).2 vs q3) q2, q3, q4⟩
section
variable {prog : Program} {w : World} {A : Around} {E : Value → Shared → Prop} {s : Shared} {z TI TO i1 i2 a b : Addr} {us ws : Array Value} {i : Nat} {xs : List Addr}
theorem zs_item {Q : Option Value → Shared → Prop} (S : ZipSep2 z TI TO i1 i2 (i1 :: a :: xs) (i2 :: b :: xs)) (d1 : a ≠ i1) (d2 : b ≠ i2) (x1 : i1 ∉ xs) (x2 : i2 ∉ xs) (Z : ZS A.handled xs s.heap z TI TO i1 i2 a b us ws i) (l1 : i < us.size) (l2 : i < ws.size)
    (fin : ∀ h' tk, ZS A.handled xs h' z TI TO i1 i2 a b us ws (i + 1) → IsTupOf2 h' s.heap.objs.size us[i] ws[i] → (∀ c o, c ≠ z → c ≠ TO → c ≠ i1 → c ≠ i2 → s.heap.get? c = some o → h'.get? c = some o) → Q (some (.ref s.heap.objs.size)) { s with heap := h', toks := tk }) :
    wpAny (model prog w) A (pyNext (.ref z)) Q E s := by
  have D1 := draws_air (prog := prog) (w := w) (A := A.in1) xs i1 a d1 x1 us
  have D2 := draws_air (prog := prog) (w := w) (A := A.in1) xs i2 b d2 x2 ws
  rcases Z.out with ⟨e1, a1, a2, e2⟩ | ⟨T, f, oT, e1, e2, e3⟩
  · refine wpAny_pyNext_zipD2_item S D1 D2 e1 Z.pair e2 ⟨Z.s1, Z.air⟩ ⟨Z.s2, Z.air⟩ l1 l2 fun x y h' tk px py q1 q2 q3 q4 q5 _ kp => ?_
    rw [Array.getElem?_eq_getElem l1] at px
    rw [Array.getElem?_eq_getElem l2] at py
    cases px; cases py
    exact fin h' tk ⟨.inr ⟨_, false, _, q1, q5, rfl⟩, kp _ _ S.TIz S.TITO S.TIi1 S.TIi2 Z.pair, q3.1, q4.1, q3.2⟩ q5 kp
  · refine held_item S D1 D2 e1 e2 Z.pair ⟨Z.s1, Z.air⟩ ⟨Z.s2, Z.air⟩ l1 l2 fun x y h' tk px py q1 q3 q4 q5 kp => ?_
    rw [Array.getElem?_eq_getElem l1] at px
    rw [Array.getElem?_eq_getElem l2] at py
    cases px; cases py
    have nT : T ≠ z ∧ T ≠ i1 ∧ T ≠ i2 := by
      refine ⟨fun q => ?_, fun q => ?_, fun q => ?_⟩
      · subst q; rw [e1] at e2; cases e2; exact absurd (Value.type.inj e3) (by decide)
      · subst q; obtain ⟨o, g, c, _⟩ := Z.s1.1; rw [g] at e2; cases e2; rw [c] at e3; exact absurd (Value.type.inj e3) (by decide)
      · subst q; obtain ⟨o, g, c, _⟩ := Z.s2.1; rw [g] at e2; cases e2; rw [c] at e3; exact absurd (Value.type.inj e3) (by decide)
    exact fin h' tk ⟨.inr ⟨T, true, oT, q1, kp T oT nT.1 nT.2.1 nT.2.2 e2, e3⟩, kp _ _ S.TIz S.TIi1 S.TIi2 Z.pair, q3.1, q4.1, q3.2⟩ q5 fun c o c1 _ c3 c4 e => kp c o c1 c3 c4 e
theorem zs_end {Q : Option Value → Shared → Prop} (S : ZipSep2 z TI TO i1 i2 (i1 :: a :: xs) (i2 :: b :: xs)) (d1 : a ≠ i1) (d2 : b ≠ i2) (x1 : i1 ∉ xs) (x2 : i2 ∉ xs) (Z : ZS A.handled xs s.heap z TI TO i1 i2 a b us ws i) (e : i = min us.size ws.size)
    (fin : ∀ h' tk, (∀ c o, c ≠ z → c ≠ TO → c ≠ i1 → c ≠ i2 → s.heap.get? c = some o → h'.get? c = some o) → Q none { s with heap := h', toks := tk }) :
    wpAny (model prog w) A (pyNext (.ref z)) Q E s := by
  have D1 := draws_air (prog := prog) (w := w) (A := A.in1) xs i1 a d1 x1 us
  have D2 := draws_air (prog := prog) (w := w) (A := A.in1) xs i2 b d2 x2 ws
  rcases Z.out with ⟨e1, a1, a2, e2⟩ | ⟨T, f, oT, e1, e2, e3⟩
  · exact wpAny_pyNext_zipD2_end S D1 D2 e1 Z.pair e2 ⟨Z.s1, Z.air⟩ ⟨Z.s2, Z.air⟩ (by omega) (by omega) (by omega) fin
  · exact held_end S D1 D2 e1 e2 Z.pair ⟨Z.s1, Z.air⟩ ⟨Z.s2, Z.air⟩ (by omega) (by omega) (by omega) fun h' tk kp => fin h' tk fun c o c1 _ c3 c4 e => kp c o c1 c3 c4 e
/-- the pairs made so far, each a tuple of its own -/
def Made (h : Heap) (lo : Addr) (us ws : Array Value) (Ts : List Addr) : Prop := Ts.Pairwise (· < ·) ∧ (∀ T ∈ Ts, lo < T) ∧ Ts.length ≤ us.size ∧ Ts.length ≤ ws.size ∧ ∀ (j : Nat) T, Ts[j]? = some T → ∃ x y, us[j]? = some x ∧ ws[j]? = some y ∧ IsTupOf2 h T x y
theorem Made.kept {h h' : Heap} {lo : Addr} {Ts : List Addr} (m : Made h lo us ws Ts) (kp : ∀ c o, lo < c → h.get? c = some o → h'.get? c = some o) : Made h' lo us ws Ts :=
  ⟨m.1, m.2.1, m.2.2.1, m.2.2.2.1, fun j T e => let ⟨x, y, e1, e2, e3⟩ := m.2.2.2.2 j T e; ⟨x, y, e1, e2, kp T _ (m.2.1 T (List.mem_of_getElem? e)) e3⟩⟩
theorem zip_loop {R : Result → Shared → Prop} (Sp : ZipSep2 z TI TO i1 i2 (i1 :: a :: xs) (i2 :: b :: xs)) (d1 : a ≠ i1) (d2 : b ≠ i2) (x1 : i1 ∉ xs) (x2 : i2 ∉ xs) {S : Addr} {res : Value} (hz : z < S) (hTO : TO < S) (h1 : i1 < S) (h2 : i2 < S) (hn : min us.size ws.size ≤ sizeLine) :
    ∀ (k i : Nat) (s : Shared) (Ts : List Addr) (c : Nat), min us.size ws.size = i + k → ZS A.handled xs s.heap z TI TO i1 i2 a b us ws i → Ts.length = i → Made s.heap S us ws Ts →
      s.heap.get? S = some { cls := .type "list", dict := none, data := .seq (Ts.map Value.ref).toArray c, slots := #[] } →
      (∀ h' tk c' Ts', Ts'.length = min us.size ws.size → Made h' S us ws Ts' → h'.get? S = some { cls := .type "list", dict := none, data := .seq (Ts'.map Value.ref).toArray c', slots := #[] } →
        (∀ q o, q ≠ S → q ≠ z → q ≠ TO → q ≠ i1 → q ≠ i2 → s.heap.get? q = some o → h'.get? q = some o) → R (.ok (.ret res)) { s with heap := h', toks := tk }) →
      codeAny (model prog w) A (.builtin "list.extend.loop" ⟨[.ref S, .ref z, res], []⟩) R s := by
  have far : ∀ q, S < q → q ≠ z ∧ q ≠ TO ∧ q ≠ i1 ∧ q ≠ i2 := fun q lt => ⟨Nat.ne_of_gt (Nat.lt_trans hz lt), Nat.ne_of_gt (Nat.lt_trans hTO lt), Nat.ne_of_gt (Nat.lt_trans h1 lt), Nat.ne_of_gt (Nat.lt_trans h2 lt)⟩
  have farS : S ≠ z ∧ S ≠ TO ∧ S ≠ i1 ∧ S ≠ i2 := ⟨Nat.ne_of_gt hz, Nat.ne_of_gt hTO, Nat.ne_of_gt h1, Nat.ne_of_gt h2⟩
  intro k
  induction k with
  | zero =>
    intro i s Ts c hk Z hl m cell fin
    refine codeAny_builtin F.entry_extend_loop ?_
    rw [Around.under_plainId F.plain_extend_loop]
    show wpAny _ A.in1 (bind (pyNext (.ref z)) _) _ _ s
    refine wpAny_bind (zs_end (A := A.in1) Sp d1 d2 x1 x2 Z (by omega) fun h' tk kp => wpAny_pure ?_)
    exact fin h' tk c Ts (by omega) (m.kept fun q o lt e => kp q o (far q lt).1 (far q lt).2.1 (far q lt).2.2.1 (far q lt).2.2.2 e) (kp S _ farS.1 farS.2.1 farS.2.2.1 farS.2.2.2 cell) fun q o _ c1 c2 c3 c4 e => kp q o c1 c2 c3 c4 e
  | succ k ih =>
    intro i s Ts c hk Z hl m cell fin
    have l1 : i < us.size := by omega
    have l2 : i < ws.size := by omega
    refine codeAny_builtin F.entry_extend_loop ?_
    rw [Around.under_plainId F.plain_extend_loop]
    show wpAny _ A.in1 (bind (pyNext (.ref z)) _) _ _ s
    refine wpAny_bind (zs_item (A := A.in1) Sp d1 d2 x1 x2 Z l1 l2 fun h' tk Z' new kp => ?_)
    have cell1 := kp S _ farS.1 farS.2.1 farS.2.2.1 farS.2.2.2 cell
    have ltS : S < s.heap.objs.size := Heap.lt_size cell
    show wpAny _ A.in1 (bind (updateSeq S (·.push (.ref s.heap.objs.size))) _) _ _ _
    refine wpAny_bind (wpAny_updateSeq (hz := by simp; omega) (_hz' := by simp; omega) cell1 rfl ?_)
    have cell2 := Heap.get?_update_self (Obj.mapSeq fun xs => xs.push (Value.ref s.heap.objs.size)) cell1 rfl
    have oth : ∀ q o, q ≠ S → h'.get? q = some o → (h'.update S (Obj.mapSeq fun xs => xs.push (Value.ref s.heap.objs.size))).get? q = some o := fun q o n e => (Heap.get?_update_other _ _ (Ne.symm n)).trans e
    have m1 : Made h' S us ws Ts := m.kept fun q o lt e => kp q o (far q lt).1 (far q lt).2.1 (far q lt).2.2.1 (far q lt).2.2.2 e
    have all : ∀ T ∈ Ts, T < s.heap.objs.size := fun T hT => by
      obtain ⟨j, hj, rfl⟩ := List.getElem_of_mem hT
      obtain ⟨x, y, _, _, e⟩ := m.2.2.2.2 j _ (List.getElem?_eq_getElem hj)
      exact Heap.lt_size e
    refine wpAny_pure ⟨plainId_quiet F.plain_extend_loop _, ih (i + 1) _ (Ts ++ [s.heap.objs.size]) _ (by omega) (Z'.kept (S := S) (fun o e => by rw [cell1] at e; cases e; exact ⟨rfl, fun _ z => by cases z⟩) oth) (by simp [hl]) ?_ (by simpa [Obj.mapSeq] using cell2) fun h2 tk2 c2 Ts' q1 q2 q3 q4 => ?_⟩
    · refine Made.kept (h := h') ⟨?_, ?_, by simp; omega, by simp; omega, ?_⟩ fun q o lt e => oth q o (Nat.ne_of_gt lt) e
      · rw [List.pairwise_append]
        exact ⟨m.1, by simp, fun x hx y hy => by cases List.mem_singleton.mp hy; exact all x hx⟩
      · intro T hT
        rcases List.mem_append.mp hT with q | q
        · exact m.2.1 T q
        · cases List.mem_singleton.mp q; exact ltS
      · intro j T e
        rcases Nat.lt_or_ge j Ts.length with q | q
        · rw [List.getElem?_append_left q] at e
          exact m1.2.2.2.2 j T e
        · rw [List.getElem?_append_right q] at e
          have : j - Ts.length = 0 := by
            rcases Nat.eq_zero_or_pos (j - Ts.length) with z | z
            · exact z
            · rw [List.getElem?_eq_none (by simp; omega)] at e; cases e
          rw [this] at e
          cases e
          have ej : j = i := by omega
          subst ej
          exact ⟨_, _, Array.getElem?_eq_getElem l1, Array.getElem?_eq_getElem l2, new⟩
    · exact fin h2 tk2 c2 Ts' q1 q2 q3 fun q o c0 c1 c2 c3 c4 e => q4 q o c0 c1 c2 c3 c4 (oth q o c0 (kp q o c1 c2 c3 c4 e))
end
theorem zip_no_len : typeLookup (.type "zip") "__len__" = pure none := am_miss_of_fast (by decide +kernel)
theorem zip_no_hint : typeLookup (.type "zip") "__length_hint__" = pure none := am_miss_of_fast (by decide +kernel)
section
variable {prog : Program} {w : World} {A : Around} {E : Value → Shared → Prop} {s : Shared} {z TI TO i1 i2 a b : Addr} {us ws : Array Value} {xs : List Addr}
theorem zip_room {Q : Bool → Shared → Prop} (ty : s.TypeIs (.ref z) "zip") (h : Q true s) : wpAny (model prog w) A (Builtin.List.listLengthHint (.ref z)) Q E s := by
  unfold Builtin.List.listLengthHint
  refine wpAny_bind (wpAny_specialOf ty zip_no_len ?_)
  refine wpAny_ite_false (by decide) ?_
  refine wpAny_ite_false (by decide) ?_
  refine wpAny_bind (wpAny_specialOf ty zip_no_hint ?_)
  exact wpAny_pure h
theorem list_zip {Q : Value → Shared → Prop} (Sp : ZipSep2 z TI TO i1 i2 (i1 :: a :: xs) (i2 :: b :: xs)) (d1 : a ≠ i1) (d2 : b ≠ i2) (x1 : i1 ∉ xs) (x2 : i2 ∉ xs) (Z : ZS A.handled xs s.heap z TI TO i1 i2 a b us ws 0) (hn : min us.size ws.size ≤ sizeLine) (lTO : TO < s.heap.objs.size)
    (fin : ∀ h' tk c Ts, Ts.length = min us.size ws.size → Made h' s.heap.objs.size us ws Ts → h'.get? s.heap.objs.size = some { cls := .type "list", dict := none, data := .seq (Ts.map Value.ref).toArray c, slots := #[] } →
      (∀ q o, q ≠ z → q ≠ TO → q ≠ i1 → q ≠ i2 → s.heap.get? q = some o → h'.get? q = some o) → Q (.ref s.heap.objs.size) { s with heap := h', toks := tk }) :
    wpAny (model prog w) A (call (.type "list") [.ref z]) Q E s := by
  refine callType_codes (Q₁ := fun obj s₁ => obj = .ref s.heap.objs.size ∧ s₁ = { s with heap := s.heap.push { cls := .type "list", data := .seq #[] } }) F.called_list (F.typeCall_list_1 _) F.entry_list_init (code_list_new _ ⟨rfl, rfl⟩) fun obj s₁ h₁ => ?_
  obtain ⟨rfl, rfl⟩ := h₁
  have cell0 : (s.heap.push { cls := .type "list", data := .seq #[] }).get? s.heap.objs.size = some { cls := .type "list", data := .seq #[] } := Heap.get?_push_size _ rfl
  have Z1 : ZS A.handled xs (s.heap.push { cls := .type "list", data := .seq #[] }) z TI TO i1 i2 a b us ws 0 := Z.kept (S := s.heap.objs.size) (fun o e => absurd (Heap.lt_size e) (Nat.lt_irrefl _)) fun c o _ e => Heap.get?_push_of_some _ e
  have tyz : ∃ o, s.heap.get? z = some o ∧ o.cls = .type "zip" := by
    rcases Z.out with ⟨e, _⟩ | ⟨_, _, _, e, _⟩
    · exact ⟨_, e, rfl⟩
    · exact ⟨_, e, rfl⟩
  have lz : z < s.heap.objs.size := let ⟨_, e, _⟩ := tyz; Heap.lt_size e
  have l1 : i1 < s.heap.objs.size := by obtain ⟨o, e, _⟩ := Z.s1.1; exact Heap.lt_size e
  have l2 : i2 < s.heap.objs.size := by obtain ⟨o, e, _⟩ := Z.s2.1; exact Heap.lt_size e
  refine ⟨⟨_, cell0, rfl⟩, F.args_list_init_2 _ _, ?_⟩
  unfold Builtin.«list.__init__»
  wp_delta
  refine wpAny_ite_false rfl ?_
  refine wpAny_ite_false rfl ?_
  refine wpAny_bind ?_
  wp_delta
  refine wpAny_bind (wpAny_seqItems cell0 rfl ?_)
  wp_delta
  refine wpAny_pure ?_
  refine wpAny_bind ?_
  wp_delta
  refine wpAny_updateSeq (hz := by simp) (_hz' := by simp) cell0 rfl ?_
  have cell1 := Heap.get?_update_self (Obj.mapSeq fun _ => (#[] : Array Value)) cell0 rfl
  have oth1 : ∀ c o, c ≠ s.heap.objs.size → (s.heap.push { cls := .type "list", data := .seq #[] }).get? c = some o → ((s.heap.push { cls := .type "list", data := .seq #[] }).update s.heap.objs.size (Obj.mapSeq fun _ => (#[] : Array Value))).get? c = some o := fun c o n e => (Heap.get?_update_other _ _ (Ne.symm n)).trans e
  refine wpAny_bind (wpAny_letGo ?_)
  wp_delta
  wp_delta
  show wpAny _ _ _ _ _ { s with heap := (s.heap.push { cls := .type "list", data := .seq #[] }).update s.heap.objs.size (Obj.mapSeq fun _ => (#[] : Array Value)) }
  have Z2 := Z1.kept (S := s.heap.objs.size) (fun o e => by rw [cell0] at e; cases e; exact ⟨rfl, fun _ z => by cases z⟩) oth1
  generalize (s.heap.push { cls := .type "list", data := .seq #[] }).update s.heap.objs.size (Obj.mapSeq fun _ => (#[] : Array Value)) = g2 at cell1 oth1 Z2 ⊢
  have tz2 : ∃ o, g2.get? z = some o ∧ o.cls = .type "zip" ∧ ∃ f0, IsZip g2 z TI TO f0 ∨ ∃ T f, IsZipHeld g2 z TI TO T f := by
    rcases Z2.out with ⟨e, _⟩ | ⟨T, f, _, e, _⟩
    · exact ⟨_, e, rfl, .none, .inl e⟩
    · exact ⟨_, e, rfl, .none, .inr ⟨T, f, e⟩⟩
  have ty2 : ({ s with heap := g2 } : Shared).TypeIs (.ref z) "zip" := let ⟨o, e, c, _⟩ := tz2; ⟨o, e, c⟩
  refine wpAny_bind (wpAny_typeOf ty2 ?_)
  refine wpAny_ite_false (by simp [Builtin.List.listSameRef, Nat.ne_of_gt lz]) ?_
  have self : ∀ {A' : Around} {Q' E' : Value → Shared → Prop}, Q' (.ref z) { s with heap := g2 } → wpAny (model prog w) A' (pyIter (.ref z)) Q' E' { s with heap := g2 } := by
    intro A' Q' E' q
    refine wpAny_pyIter_slot ty2 F.slot_zip_iter (wpAny_call_entry F.slot_zip_iter ty2 F.entry_zip_iter ?_ (F.args_zip_iter_1 _))
    show wpAny _ _ (ret (.ref z)) _ _ _
    exact wpAny_pure ⟨_, rfl, "zip", _, ty2, F.slot_zip_next.lookup, q⟩
  refine wpAny_bind (self ?_)
  refine wpAny_bind (wpAny_holding (zip_room ty2 ?_))
  refine wpAny_ite_true rfl ?_
  refine wpAny_bind (wpAny_rule ?_)
  refine wpAny_bind ?_
  wp_delta
  refine wpAny_bind ?_
  wp_delta
  refine wpAny_updateSeq (hz := by simp) (_hz' := by simp) cell1 rfl ?_
  have cell2 := Heap.get?_update_self (Obj.mapSeq fun xs => xs.push Value.none) cell1 rfl
  have oth2 : ∀ c o, c ≠ s.heap.objs.size → g2.get? c = some o → (g2.update s.heap.objs.size (Obj.mapSeq fun xs => xs.push Value.none)).get? c = some o := fun c o n e => (Heap.get?_update_other _ _ (Ne.symm n)).trans e
  wp_delta
  refine wpAny_updateSeq (hz := by simp; exact Nat.le_of_ble_eq_true (by rw [sizeLine_eq]; rfl)) (_hz' := by simp) cell2 rfl ?_
  have cell3 := Heap.get?_update_self (Obj.mapSeq fun xs => xs.pop) cell2 rfl
  have oth3 : ∀ c o, c ≠ s.heap.objs.size → g2.get? c = some o → ((g2.update s.heap.objs.size (Obj.mapSeq fun xs => xs.push Value.none)).update s.heap.objs.size (Obj.mapSeq fun xs => xs.pop)).get? c = some o := fun c o n e => (Heap.get?_update_other _ _ (Ne.symm n)).trans (oth2 c o n e)
  have Z3 := Z2.kept (S := s.heap.objs.size) (fun o e => by rw [cell1] at e; cases e; exact ⟨rfl, fun _ z => by cases z⟩) oth3
  refine wpAny_pure ⟨plainId_quiet F.plain_extend_loop _, zip_loop (A := A.in1) Sp d1 d2 x1 x2 lz lTO l1 l2 hn (min us.size ws.size) 0 _ [] _ (by omega) Z3 rfl ⟨.nil, by simp, by simp, by simp, by simp⟩ (by simpa [Obj.mapSeq] using cell3) fun h' tk c' Ts q1 q2 q3 q4 => ?_⟩
  refine ⟨rfl, fin h' tk c' Ts q1 q2 q3 fun q o c1 c2 c3 c4 e => ?_⟩
  have lq : q ≠ s.heap.objs.size := Nat.ne_of_lt (Heap.lt_size e)
  exact q4 q o lq c1 c2 c3 c4 (oth3 q o lq (oth1 q o lq (Heap.get?_push_of_some _ e)))
end
end RX
set_option Elab.async false
set_option linter.all false
set_option maxRecDepth 100000
set_option maxHeartbeats 4000000
/-! RXa: list(zip(a, b)) by data. -/
namespace DL
open PySem PySem.Spec PyProof.Rows L2

/-- many new objects are tracked at once -/
theorem news_all {X : Cx} {pins : List (Addr × Obj)} {σ : L2.St} {H H' : Hp} {s : Shared} {h' : Heap} {t' : Nat} (I : Inv X pins σ H s) (k : ∀ b u, s.heap.get? b = some u → h'.get? b = some u) (old : ∀ b u, H b = some u → H' b = some u)
    (new : ∀ b u, H' b = some u → H b = none → s.heap.objs.size ≤ b ∧ ObjOk X.prog X.w H' h' b u) : Inv X pins σ H' { s with heap := h', toks := t' } := by
  refine I.un ⟨fun b u q _ _ _ => k b u q, fun b u q _ _ _ => ⟨u.slots, k b u q⟩, fun b u q n _ => ?_, fun b u q _ => ⟨u, k b u q⟩, fun b xs q => old _ _ q, fun b o u q => old _ _ q, fun b ps q => ⟨#[], by rw [old _ _ q]; simp⟩⟩ fun b u e => ?_
  · cases e : H' b with
    | none => rfl
    | some o => exact absurd (Nat.lt_of_lt_of_le (Heap.lt_size q) (new b o e n).1) (Nat.lt_irrefl _)
  · cases e2 : H b with
    | none => exact (new b u e e2).2
    | some o =>
      have := old _ _ e2
      rw [e] at this; cases this
      exact (I.hok b u e2).stay (fun c v _ q => k c v q) (fun c q => old _ _ q) fun c xs q => old _ _ q
def pairAt : List Addr → List V → List V → Addr → Option HO
  | T :: Ts, x :: xs, y :: ys, q => if q = T then some (.tup [x, y]) else pairAt Ts xs ys q
  | _, _, _, _ => none
theorem pairAt_some : ∀ {Ts : List Addr} {xs ys : List V} {q : Addr} {o : HO}, pairAt Ts xs ys q = some o → ∃ (j : Nat) (x y : V), Ts[j]? = some q ∧ xs[j]? = some x ∧ ys[j]? = some y ∧ o = .tup [x, y]
  | [], _, _, _, _, h => by cases h
  | _ :: _, [], _, _, _, h => by cases h
  | _ :: _, _ :: _, [], _, _, h => by cases h
  | T :: Ts, x :: xs, y :: ys, q, o, h => by
    unfold pairAt at h
    by_cases e : q = T
    · rw [if_pos e] at h; cases h
      exact ⟨0, x, y, by rw [e]; rfl, rfl, rfl, rfl⟩
    · rw [if_neg e] at h
      obtain ⟨j, x', y', e1, e2, e3, e4⟩ := pairAt_some h
      exact ⟨j + 1, x', y', e1, e2, e3, e4⟩
theorem pairAt_at : ∀ {Ts : List Addr} {xs ys : List V} {j : Nat} {q : Addr} {x y : V}, Ts.Pairwise (· < ·) → Ts[j]? = some q → xs[j]? = some x → ys[j]? = some y → pairAt Ts xs ys q = some (.tup [x, y])
  | [], _, _, _, _, _, _, _, h, _, _ => by simp at h
  | _ :: _, [], _, _, _, _, _, _, _, h, _ => by simp at h
  | _ :: _, _ :: _, [], _, _, _, _, _, _, _, h => by simp at h
  | T :: Ts, x0 :: xs, y0 :: ys, 0, q, x, y, _, h1, h2, h3 => by
    cases h1; cases h2; cases h3
    unfold pairAt
    rw [if_pos rfl]
  | T :: Ts, x0 :: xs, y0 :: ys, j + 1, q, x, y, pw, h1, h2, h3 => by
    obtain ⟨p1, p2⟩ := List.pairwise_cons.mp pw
    have h1' : Ts[j]? = some q := h1
    unfold pairAt
    rw [if_neg (Nat.ne_of_gt (p1 q (List.mem_of_getElem? h1')))]
    exact pairAt_at p2 h1' h2 h3
def pairsP (ps qs : List PyData) : List PyData := (ps.zip qs).map fun z => .tuple [z.1, z.2]
theorem pairsP_len (ps qs : List PyData) : (pairsP ps qs).length = min ps.length qs.length := by unfold pairsP; rw [List.length_map, List.length_zip]
/-- list(zip(a, b)) of two tuples -/
def zipR (Q : DK) : List D → Mp → Prop
  | [.dat (.tuple ps), .dat (.tuple qs)], M => min ps.length qs.length ≤ 16777216 ∧ Q (.dat (.list (pairsP ps qs))) M
  | _, _ => False
def dListZip (ta tb : DE) : DE := fun δ M Q => ta δ M fun d M1 => tb δ M1 fun d2 M2 => zipR Q [d, d2] M2
theorem all_get {HI : Hp} : ∀ {vs : List V} {ps : List PyData}, vs.length = ps.length → (∀ (i : Nat) v p, vs[i]? = some v → ps[i]? = some p → Dq HI v p) → DqAll HI vs ps
  | [], [], _, _ => .nil
  | [], _ :: _, h, _ => by simp at h
  | _ :: _, [], h, _ => by simp at h
  | v :: vs, p :: ps, h, g => .cons (g 0 v p rfl rfl) (all_get (by simpa using h) fun i v' p' e1 e2 => g (i + 1) v' p' e1 e2)
section
variable {X : Cx} {p p2 pos pos2 : Pos} {e e2 : Expr} {ta tb : DE}
theorem q_listZip (hc : ∀ pins s σ H, Inv X pins σ H s → ∃ xs, RX.Air X.A.handled xs s.heap) (hg : Gl X "list") (hm : X.mg "list" = none) (hg2 : Gl X "zip") (hm2 : X.mg "zip" = none) (ha : QE X e ta) (hb : QE X e2 tb)
    (n1 : starEach [e, e2] X.env = (false, eval e X.env) :: starEach [e2] X.env := by rfl) (n2 : starEach [e2] X.env = (false, eval e2 X.env) :: starEach [] X.env := by rfl) (pl : (backTo pos2 (starEach [e2] X.env)).any (·.1) = false := by rfl)
    (n3 : starEach [(Expr.Call (.Name "zip" p2) [e, e2] [] pos2)] X.env = (false, eval (Expr.Call (.Name "zip" p2) [e, e2] [] pos2) X.env) :: starEach [] X.env := by rfl) :
    QE X (.Call (.Name "list" p) [.Call (.Name "zip" p2) [e, e2] [] pos2] [] pos) (dListZip ta tb) := ⟨fun pins s σ H Q I ⟨S, δ, M, Qd, r, h, k⟩ => by
  have A2 : QA X [e, e2] (aCons ta (aCons tb aNil)) := qa_cons ha (qa_cons hb qa_nil n2) n1
  refine Call_ (ld_blt I hg hm PyProof.Rows.boot_list (PyProof.Rows.callWith_type1 (args_cons (Call_ (ld_blt I hg2 hm2 PyProof.Rows.boot_zip (PyProof.Rows.callWith_type1 (thn (A2.run pos2 pins s σ H (fun vs H2 => ∃ ds M2, Grow M H M2 H2 ∧ RepM S M2 H2 ∧ DVs (Imm M2 S H2) vs ds ∧ zipR Qd ds M2) I ⟨S, δ, M, zipR Qd, r, h, fun ds M2 vs H2 g2 m2 r2 q2 => ⟨ds, M2, g2, m2, r2, q2⟩⟩) fun us s2 ⟨vs, H2, I2, rv, ds, M2, g2, m2, dv, q⟩ => ?_) n1 pl))) n3) n3 rfl))
  · unfold zipR at q
    split at q
    · rename_i ps qs
      obtain ⟨hn, q⟩ := q
      obtain ⟨v1, v2, rfl, rv1, rv2⟩ := dvs2 dv
      obtain ⟨u1, u2, rfl, ru1, ru2⟩ := vals2 rv
      obtain ⟨a, xs, rfl, hxa, da⟩ := dv_tup rv1
      obtain ⟨b, ys, rfl, hyb, db⟩ := dv_tup rv2
      cases ru1; cases ru2
      obtain ⟨ws, rw1, tt1, _⟩ := I2.tuple (xs := xs) (.of (imm_sub _ _ hxa))
      obtain ⟨zs, rw2, tt2, _⟩ := I2.tuple (xs := ys) (.of (imm_sub _ _ hyb))
      have la := tt1.lt
      have lb := tt2.lt
      obtain ⟨xx, air⟩ := hc pins s2 σ _ I2
      have lx := air.lt
      refine zip_begins2 (begins_tuple a ws.toArray) (begins_tuple b zs.toArray) tt1 tt2 fun h' c1 c2 c3 c4 c5 sz kept => args_nil ?_
      have sep := zip_sep2 (N := s2.heap.objs.size) (fp1 := a :: xx) (fp2 := b :: xx) (fun c n => by rcases List.mem_cons.mp n with rfl | n; exact la; exact lx c n) (fun c n => by rcases List.mem_cons.mp n with rfl | n; exact lb; exact lx c n)
      have Z : RX.ZS X.A.handled xx h' (s2.heap.objs.size + 4) (s2.heap.objs.size + 2) (s2.heap.objs.size + 3) s2.heap.objs.size (s2.heap.objs.size + 1) a b ws.toArray zs.toArray 0 :=
        ⟨.inl ⟨c1, _, _, c3⟩, c2, ⟨⟨_, c4, rfl, rfl⟩, (show s2.heap.IsTuple a ws.toArray from tt1).at fun o e => kept a o e⟩, ⟨⟨_, c5, rfl, rfl⟩, (show s2.heap.IsTuple b zs.toArray from tt2).at fun o e => kept b o e⟩, air.kept fun x hx o e => kept x o e⟩
      have l1 := rw1.length
      have l2 := rw2.length
      have l3 := da.length
      have l4 := db.length
      have lTO : s2.heap.objs.size + 3 < h'.objs.size := by rw [sz]; exact Nat.lt_succ_of_lt (Nat.lt_succ_self _)
      refine RX.list_zip (s := { s2 with heap := h' }) sep (Nat.ne_of_lt la) (Nat.ne_of_lt (Nat.lt_succ_of_lt lb)) (fun n => Nat.lt_irrefl _ (lx _ n)) (fun n => Nat.lt_irrefl _ (Nat.lt_of_succ_lt (lx _ n))) Z (by rw [sizeLine_eq, List.size_toArray, List.size_toArray]; omega) lTO fun h2 tk c Ts q1 q2 q3 q4 => ?_
      have lo : s2.heap.objs.size ≤ h'.objs.size := by rw [sz]; exact Nat.le_add_right _ _
      have keep : ∀ c o, s2.heap.get? c = some o → h2.get? c = some o := fun c o e => by
        have lc := Heap.lt_size e
        exact q4 c o (Nat.ne_of_lt (Nat.lt_of_lt_of_le lc (Nat.le_add_right _ _))) (Nat.ne_of_lt (Nat.lt_of_lt_of_le lc (Nat.le_add_right _ _))) (Nat.ne_of_lt lc) (Nat.ne_of_lt (Nat.lt_of_lt_of_le lc (Nat.le_add_right _ _))) (kept c o e)
      obtain ⟨p1, p2', p3, p4, p5⟩ := q2
      rw [List.size_toArray, List.size_toArray] at q1
      let H' : Hp := fun q => if q = h'.objs.size then some (.lst (Ts.map V.ref)) else match pairAt Ts xs ys q with | some o => some o | none => H2 q
      have frS : H2 h'.objs.size = none := I2.hok.fresh lo
      have frT : ∀ T ∈ Ts, H2 T = none := fun T hT => I2.hok.fresh (Nat.le_trans lo (Nat.le_of_lt (p2' T hT)))
      have old : ∀ b u, H2 b = some u → H' b = some u := fun b u e => by
        show (if b = h'.objs.size then _ else _) = _
        rw [if_neg (fun z => by rw [z, frS] at e; cases e)]
        cases q5 : pairAt Ts xs ys b with
        | none => exact e
        | some o =>
          obtain ⟨j, _, _, e1, _⟩ := pairAt_some q5
          rw [frT b (List.mem_of_getElem? e1)] at e; cases e
      have atS : H' h'.objs.size = some (.lst (Ts.map V.ref)) := if_pos rfl
      have I3 : Inv X pins σ H' { s2 with heap := h2, toks := tk } := by
        refine news_all I2 keep old fun b u e n => ?_
        by_cases z : b = h'.objs.size
        · subst z
          rw [atS] at e; cases e
          refine ⟨lo, by rw [sizeLine_eq, List.length_map]; omega, Ts.map Value.ref, c, ?_, q3⟩
          clear q1 q3 p1 p2' p3 p4 p5 frT old atS
          induction Ts with
          | nil => exact .nil
          | cons T Ts ih => exact .cons rfl ih
        · have e' : (match pairAt Ts xs ys b with | some o => some o | none => H2 b) = some u := by
            have : H' b = _ := if_neg z
            rw [← this]; exact e
          cases q5 : pairAt Ts xs ys b with
          | none => rw [q5] at e'; rw [n] at e'; cases e'
          | some o =>
            rw [q5] at e'; cases e'
            obtain ⟨j, x, y, e1, e2, e3, rfl⟩ := pairAt_some q5
            obtain ⟨x', y', f1, f2, f3⟩ := p5 j b e1
            obtain ⟨x2, g1, g2⟩ := rw1.get e2
            obtain ⟨y2, g3, g4⟩ := rw2.get e3
            rw [List.getElem?_toArray, g1] at f1
            rw [List.getElem?_toArray, g3] at f2
            cases f1; cases f2
            exact ⟨Nat.le_trans lo (Nat.le_of_lt (p2' b (List.mem_of_getElem? e1))), by rw [sizeLine_eq]; exact Nat.le_of_ble_eq_true rfl, [_, _], .cons g2 (.cons g4 .nil), ⟨_, f3, rfl, 0, rfl⟩⟩
      have m3 : RepM S M2 H' := m2.same old
      have imm : ∀ b u, s2.heap.objs.size ≤ b → H' b = some u → Imm M2 S H' b = some u := fun b u lb e => imm_some.mpr ⟨m2.free (I2.hok.fresh lb), m2.hidF (I2.hok.fresh lb), e⟩
      have sub : Same (Imm M2 S H2) (Imm M2 S H') := (Grow.same old).imm S
      refine ⟨.ref h'.objs.size, H', I3, rfl, k _ _ _ _ (g2.trans (Grow.same old)) m3 (dv_lst_mk (imm _ _ lo atS) (all_get (by rw [List.length_map, pairsP_len]; omega) fun i v pd e1 e2 => ?_)) q⟩
      rw [List.getElem?_map] at e1
      cases f1 : Ts[i]? with
      | none => rw [f1] at e1; cases e1
      | some T =>
        rw [f1] at e1; cases e1
        unfold pairsP at e2
        rw [List.getElem?_map] at e2
        cases f2 : (ps.zip qs)[i]? with
        | none => rw [f2] at e2; cases e2
        | some z =>
          rw [f2] at e2; cases e2
          obtain ⟨f3, f4⟩ := List.getElem?_zip_eq_some.mp f2
          obtain ⟨x, x1, x2⟩ := DqAll_get da f3
          obtain ⟨y, y1, y2⟩ := DqAll_get db f4
          have hT := List.mem_of_getElem? f1
          have aT : H' T = some (.tup [x, y]) := by
            show (if T = h'.objs.size then _ else _) = _
            rw [if_neg (Nat.ne_of_gt (p2' T hT)), pairAt_at p1 f1 x1 y1]
          exact .tup (imm T _ (Nat.le_trans lo (Nat.le_of_lt (p2' T hT))) aT) (.cons (Dq_mono sub _ _ x2) (.cons (Dq_mono sub _ _ y2) .nil))
    · exact q.elim⟩
theorem air_calm (hc : X.calm = true) : ∀ pins s σ H, Inv X pins σ H s → ∃ xs, RX.Air X.A.handled xs s.heap := fun pins s σ H I => ⟨[], .inl ⟨I.ok.hd hc, rfl⟩⟩
theorem air_hot (hc : L2H.HotC X) : ∀ pins s σ H, Inv X pins σ H s → ∃ xs, RX.Air X.A.handled xs s.heap := fun pins s σ H I => by
  obtain ⟨x1, hh, o, vs, q1, q2, q3⟩ := hc.at I
  exact ⟨[x1], .inr ⟨x1, rfl, hh, o, vs, q1, q2, q3⟩⟩
end
end DL
set_option Elab.async false
set_option linter.all false
set_option maxRecDepth 100000
set_option maxHeartbeats 4000000
/-! RXb: comprehensions with two fors. -/
namespace DL
open PySem PySem.Spec PyProof.Rows L2
def goLc2 (g : DG) (di1 : DI) (g1 : DG) (te : DE) (vs1 : List Nat) (stay : Mp → Prop) (δw : Sd) : Nat → List D → Mp → (List D → Mp → Prop) → Prop
  | _, [], M, Q => stay M ∧ Q [] M
  | n, d :: r, M, Q => stay M ∧ g d δw M fun δ2 M2 => di1 δ2 M2 fun items1 stay1 M3 => n + items1.length ≤ 16777216 ∧ goLc g1 dYes te stay1 (dwipe δ2 vs1) items1 M3 fun acc1 M4 => goLc2 g di1 g1 te vs1 stay δw (n + items1.length) r M4 fun acc M5 => Q (acc1 ++ acc) M5
def dLc2 (di : DI) (g : DG) (di1 : DI) (g1 : DG) (te : DE) (vs vs1 : List Nat) (fin : List D → Mp → DK → Prop) : DE := fun δ M Q => di δ M fun items stay M1 => goLc2 g di1 g1 te vs1 stay (dwipe δ vs) 0 items M1 fun acc M2 => fin acc M2 Q
section
variable {S : Hid} {p : Addr} {M M1 : Mp} {H H1 : Hp}
/-- a new empty list that nobody sees -/
theorem hide_new (m : RepM S M H) (hp : H p = none) : RepM (fun b => S b || decide (b = p)) M (upd H p (.lst [])) := by
  refine ⟨fun a o e => ?_, fun a e => ?_⟩
  · refine (m.obj a o e).mono (fun b u q => ?_) fun u q => ?_
    · obtain ⟨h1, h2, h3⟩ := imm_some.mp q
      have ne : b ≠ p := ne_of_none h3 hp
      exact imm_some.mpr ⟨h1, by simp [h2, ne], by rw [upd_ne ne]; exact h3⟩
    · rw [upd_ne (ne_of_none q hp)]; exact q
  · by_cases z : a = p
    · subst z
      exact ⟨m.free hp, by rw [upd_same]; exact trivial⟩
    · obtain ⟨h1, h2⟩ := m.hid a (by simpa [z] using e)
      exact ⟨h1, by rw [upd_ne z]; exact h2⟩
/-- .. is lengthened -/
theorem hide_put {vs : List V} (m : RepM (fun b => S b || decide (b = p)) M H) : RepM (fun b => S b || decide (b = p)) M (upd H p (.lst vs)) ∧ Same (Imm M (fun b => S b || decide (b = p)) H) (Imm M (fun b => S b || decide (b = p)) (upd H p (.lst vs))) := by
  have mp := (m.hid p (by simp)).1
  have im : Same (Imm M (fun b => S b || decide (b = p)) H) (Imm M (fun b => S b || decide (b = p)) (upd H p (.lst vs))) := fun b u q => by
    obtain ⟨h1, h2, h3⟩ := imm_some.mp q
    have ne : b ≠ p := fun z => by subst z; simp at h2
    exact imm_some.mpr ⟨h1, h2, by rw [upd_ne ne]; exact h3⟩
  refine ⟨⟨fun a o e => ?_, fun a e => ?_⟩, im⟩
  · refine (m.obj a o e).mono im fun u q => ?_
    have ne : a ≠ p := fun z => by subst z; rw [mp] at e; cases e
    rw [upd_ne ne]; exact q
  · obtain ⟨h1, h2⟩ := m.hid a e
    refine ⟨h1, ?_⟩
    by_cases z : a = p
    · subst z; rw [upd_same]; exact trivial
    · rw [upd_ne z]; exact h2
end
theorem lc2_lift {K : PySem.W.Frag} {di di1 : DI} {g g1 : DG} {te : DE} {vs vs1 : List Nat} {fin : List D → Mp → DK → Prop} (fo : FinOk fin) {σ : L2.St} {H : Hp} {Q : VK} (h : liftE (dLc2 di g di1 g1 te vs vs1 fin) σ H Q) :
    tLc2 (liftI di) (liftG vs g) (liftT dYes) (liftI di1) (liftG vs1 g1) (liftT dYes) (liftE te) vs vs1 σ H Q := by
  obtain ⟨S, δ, M, Qd, r, h, k⟩ := h
  refine ⟨S, δ, M, _, r, h, fun items stay M1 H1 J g0 m1 good q1 p hp => ?_⟩
  have hSp := m1.hidF hp
  refine ⟨fun i m H2 => ∃ M2 xs acc n, RepM (fun b => S b || decide (b = p)) M2 H2 ∧ Grow M1 H1 M2 H2 ∧ H2 p = some (.lst xs) ∧ DVs (Imm M2 (fun b => S b || decide (b = p)) H2) xs acc ∧ acc.length ≤ n ∧
    goLc2 g di1 g1 te vs1 stay (dwipe δ vs) n (items.drop i) M2 (fun a M3 => fin (acc ++ a) M3 Qd) ∧ i ≤ items.length ∧ m = items.length - i, ⟨_, M1, [], [], 0, hide_new m1 hp, Grow.same (same_upd hp), upd_same, .nil, Nat.le_refl _, q1, Nat.zero_le _, rfl⟩, ?_⟩
  rintro i m H2 ⟨M2, xs, acc, n, m2, g2, hpx, hd, hla, q2, hle, rfl⟩
  have base : Same (Imm M1 S H1) (Imm M2 (fun b => S b || decide (b = p)) H2) := fun b o q => by
    obtain ⟨h1, h2, h3⟩ := imm_some.mp q
    obtain ⟨e1, e2⟩ := g2 b o h1 h3
    exact imm_some.mpr ⟨e1, by simp [h2, ne_of_none h3 hp], e2⟩
  rcases drop_cases items i with ⟨e, hl⟩ | ⟨d, ed, e, hl⟩
  · rw [e] at q2
    refine .inl ⟨(good _ i M2 H2 base m2 q2.1).2 (Nat.le_antisymm hl hle), ?_⟩
    have qq : fin (acc ++ []) M2 Qd := q2.2
    rw [List.append_nil] at qq
    exact fo S p M1 M2 H1 H2 xs acc Qd Q hp hSp g2 m1 m2 hpx hd qq (k.grow g0)
  · rw [e] at q2
    obtain ⟨go, step⟩ := (good _ i M2 H2 base m2 q2.1).1 d ed
    refine .inr ⟨go, fun H' => ∃ M' xs acc n, RepM (fun b => S b || decide (b = p)) M' H' ∧ Grow M1 H1 M' H' ∧ H' p = some (.lst xs) ∧ DVs (Imm M' (fun b => S b || decide (b = p)) H') xs acc ∧ acc.length ≤ n ∧
      goLc2 g di1 g1 te vs1 stay (dwipe δ vs) n (items.drop (i + 1)) M' (fun a M3 => fin (acc ++ a) M3 Qd), fun H' ⟨M', xs, acc, n, a1, a2, a3, a4, a5, a6⟩ => ⟨items.length - (i + 1), by omega, M', xs, acc, n, a1, a2, a3, a4, a5, a6, hl, rfl⟩, fun x H3 y => ?_⟩
    obtain ⟨g3, m3, dv⟩ := step x H3 y
    have r3 : Rep (fun b => S b || decide (b = p)) (dwipe δ vs) M2 (wipe σ vs) H3 := by
      refine ⟨m3, (r.s.mono (g0.imm S)).wipe vs |>.mono fun b o q => ?_⟩
      exact g3.imm _ b o (base b o q)
    refine ⟨_, d, dwipe δ vs, M2, _, r3, dv, q2.2, fun δ4 M4 σ4 H4 g4 r4 ew q4 => ⟨by rw [ew, wipe_wipe], _, δ4, M4, _, r4, (show dYes δ4 M4 (fun b M => b = true ∧ M = M4) from ⟨rfl, rfl⟩), fun b M5 H5 g5 m5 q5 => ?_⟩⟩
    obtain ⟨rfl, rfl⟩ := q5
    rw [if_pos rfl]
    have mp2 := m2.hid p (by simp)
    have r5 := r4.grow g5 m5
    refine ⟨_, δ4, M5, _, r5, q4, fun items1 stay1 M6 H6 J1 g6 m6 good1 q6 => ?_⟩
    obtain ⟨hn1, q6⟩ := q6
    have gg := ((g3.trans g4).trans g5).trans g6
    obtain ⟨mp6, hp6⟩ := gg p _ mp2.1 hpx
    refine ⟨fun j m' H7 => ∃ M7 xs acc1, RepM (fun b => S b || decide (b = p)) M7 H7 ∧ Grow M1 H1 M7 H7 ∧ H7 p = some (.lst xs) ∧ DVs (Imm M7 (fun b => S b || decide (b = p)) H7) xs (acc ++ acc1) ∧ acc1.length ≤ j ∧ Same (Imm M6 (fun b => S b || decide (b = p)) H6) (Imm M7 (fun b => S b || decide (b = p)) H7) ∧
      goLc g1 dYes te stay1 (dwipe δ4 vs1) (items1.drop j) M7 (fun a M8 => goLc2 g di1 g1 te vs1 stay (dwipe δ vs) (n + items1.length) (items.drop (i + 1)) M8 fun a2 M9 => fin (acc ++ (acc1 ++ a) ++ a2) M9 Qd) ∧ j ≤ items1.length ∧ m' = items1.length - j,
      ⟨_, M6, xs, [], m6, g2.trans gg, hp6, by rw [List.append_nil]; exact DVs.mono (gg.imm _) hd, Nat.le_refl _, fun _ _ q => q, by simpa only [List.nil_append, List.append_assoc, List.drop_zero] using q6, Nat.zero_le _, rfl⟩, ?_⟩
    rintro j m' H7 ⟨M7, xs7, acc1, m7, g7, hp7, hd7, hl7, im7, q7, hle1, rfl⟩
    have mp7 := m7.hid p (by simp)
    rcases drop_cases items1 j with ⟨e1, hl1⟩ | ⟨d1, ed1, e1, hl1⟩
    · rw [e1] at q7
      refine .inl ⟨(good1 _ j M7 H7 im7 m7 q7.1).2 (Nat.le_antisymm hl1 hle1), M7, xs7, acc ++ acc1, n + items1.length, m7, g7, hp7, hd7, by rw [List.length_append]; omega, ?_⟩
      have qq := q7.2
      simpa only [List.append_nil, List.append_assoc] using qq
    · rw [e1] at q7
      obtain ⟨go1, step1⟩ := (good1 _ j M7 H7 im7 m7 q7.1).1 d1 ed1
      refine .inr ⟨go1, fun H8 => ∃ M8 xs acc1, RepM (fun b => S b || decide (b = p)) M8 H8 ∧ Grow M1 H1 M8 H8 ∧ H8 p = some (.lst xs) ∧ DVs (Imm M8 (fun b => S b || decide (b = p)) H8) xs (acc ++ acc1) ∧ acc1.length ≤ j + 1 ∧ Same (Imm M6 (fun b => S b || decide (b = p)) H6) (Imm M8 (fun b => S b || decide (b = p)) H8) ∧
        goLc g1 dYes te stay1 (dwipe δ4 vs1) (items1.drop (j + 1)) M8 (fun a M8 => goLc2 g di1 g1 te vs1 stay (dwipe δ vs) (n + items1.length) (items.drop (i + 1)) M8 fun a2 M9 => fin (acc ++ (acc1 ++ a) ++ a2) M9 Qd),
        fun H8 ⟨M8, xs, acc1, a1, a2, a3, a4, a5, a6, a7⟩ => ⟨items1.length - (j + 1), by omega, M8, xs, acc1, a1, a2, a3, a4, a5, a6, a7, hl1, rfl⟩, fun x1 H8 y1 => ?_⟩
      obtain ⟨g8, m8, dv1⟩ := step1 x1 H8 y1
      have r8 : Rep (fun b => S b || decide (b = p)) (dwipe δ4 vs1) M7 (wipe σ4 vs1) H8 := by
        refine ⟨m8, ((r5.s.mono (g6.imm _)).wipe vs1).mono fun b o q => ?_⟩
        exact g8.imm _ b o (im7 b o q)
      refine ⟨_, d1, dwipe δ4 vs1, M7, _, r8, dv1, q7.2, fun δ9 M9 σ9 H9 g9 r9 ew9 q9 => ⟨by rw [ew9, wipe_wipe], _, δ9, M9, _, r9, q9, fun b M10 H10 g10 m10 q10 => ?_⟩⟩
      cases b with
      | true =>
        refine ⟨_, δ9, M10, _, r9.grow g10 m10, q10, fun yd M11 yv H11 g11 m11 r11 q11 => ?_⟩
        have gg2 := ((g8.trans g9).trans g10).trans g11
        obtain ⟨mp11, hp11⟩ := gg2 p _ mp7.1 hp7
        obtain ⟨m12, im12⟩ := hide_put (vs := xs7 ++ [yv]) m11
        have l1 := DVs_len hd7
        rw [List.length_append] at l1
        refine ⟨xs7, hp11, by rw [sizeLine_eq, l1]; omega, M11, xs7 ++ [yv], acc1 ++ [yd], m12, ?_, upd_same, ?_, by rw [List.length_append, List.length_singleton]; omega, fun b o q => im12 b o (gg2.imm _ b o (im7 b o q)), ?_⟩
        · intro b o h1 h2
          obtain ⟨e1, e2⟩ := (g7.trans gg2) b o h1 h2
          exact ⟨e1, by rw [upd_ne (ne_of_none h2 hp)]; exact e2⟩
        · rw [← List.append_assoc]
          exact DVs_append (DVs.mono im12 (DVs.mono (gg2.imm _) hd7)) (.cons (r11.mono im12) .nil)
        · simpa [List.append_assoc] using q11
      | false =>
        have gg2 := (g8.trans g9).trans g10
        obtain ⟨mp10, hp10⟩ := gg2 p _ mp7.1 hp7
        exact ⟨M10, xs7, acc1, m10, g7.trans gg2, hp10, DVs.mono (gg2.imm _) hd7, by omega, fun b o q => gg2.imm _ b o (im7 b o q), q10⟩
section
variable {X : Cx} {pos : Pos}
theorem q_lc2 {elt tg iter tg1 iter1 : Expr} {scope : Scope} {own : List (Str × Nat)} {vs1 : List Nat} {di di1 : DI} {g g1 : DG} {te : DE} {fin : List D → Mp → DK → Prop} (fo : FinOk fin) (hc : X.calm = true) (hN : X.N.Nodup) (hi : QI X tg iter di) (ok : BlkOk X.N X.env.scope scope own) (hv : ∀ i ∈ vs1, i ∈ own.map (·.2))
    (hg : ∀ (s : Shared) (H : Hp) (C : Addr) (cl : List (Str × Addr)) (fp : List Addr), QG (X.blk s H scope (compEnvC scope cl C X.env) fp) tg (own.map (·.2)) g)
    (hi1 : ∀ (s : Shared) (H : Hp) (C : Addr) (cl : List (Str × Addr)) (fp : List Addr), QI (X.blk s H scope (compEnvC scope cl C X.env) fp) tg1 iter1 di1)
    (hg1 : ∀ (s : Shared) (H : Hp) (C : Addr) (cl : List (Str × Addr)) (fp : List Addr), QG (X.blk s H scope (compEnvC scope cl C X.env) fp) tg1 vs1 g1)
    (he : ∀ (s : Shared) (H : Hp) (C : Addr) (cl : List (Str × Addr)) (fp : List Addr), QE (X.blk s H scope (compEnvC scope cl C X.env) fp) elt te) (hs : ∀ x, foldedSetIterable iter X.env x = pure x := by intro _; rfl) (hs1 : ∀ env x, foldedSetIterable iter1 env x = pure x := by intro _ _; rfl) :
    QE X (.ListComp elt [⟨tg, iter, [], 0⟩, ⟨tg1, iter1, [], 0⟩] scope pos) (dLc2 di g di1 g1 te (own.map (·.2)) vs1 fin) :=
  PE_imp (pe_lc2 hc hN hi ok hv hg (fun _ _ _ _ _ => qts_nil) hi1 hg1 (fun _ _ _ _ _ => qts_nil) he hs hs1) fun σ H Q => lc2_lift (K := X.K) fo
end
end DL
set_option Elab.async false
set_option linter.all false
set_option maxRecDepth 100000
set_option maxHeartbeats 4000000
/-! RXc: the package's exceptions: made, raised, caught, read. -/
namespace DL
open PySem PySem.Spec PyProof.Rows L2
/-- the first def of a class's suite -/
def firstS (i : Nat) : Stmt := match topS i with
  | .ClassDef _ _ _ b _ _ _ _ _ _ _ => b.getD 0 (.Pass ⟨0, 0, 0, 0⟩)
  | s => s
/-- what an exception class must have -/
structure Err (K : PySem.W.Frag) (C : Addr) : Prop where
  oex : OexC K C
  xf : XfC K C
  noW : PySem.W.findIn K (.ref C) "word" = some none
  noA : PySem.W.findIn K (.ref C) "at" = some none
  te : PySem.W.exmOne K (.ref C) (.ref C) = some true
/-- __init__(self, word, at) -/
def spInit (K : PySem.W.Frag) : Sp := fun vs H Q _ => ∃ (a C : Addr) (w : Str) (n : Int), vs = [.ref a, .str w, .int n] ∧ Err K C ∧ H a = some (exo a C none) ∧
  ∀ dx, H dx = none → dx ≠ a → Q .non (upd (upd (upd H dx (exd dx [("word", .str w)])) a (exo a C (some dx))) dx (exd dx [("at", .int n), ("word", .str w)]))
def t_init (K : PySem.W.Frag) : TS := tSeq (tOst K "word" (tVar 0) (tVar 1)) (tOst K "at" (tVar 0) (tVar 2))
section
variable {P : Program} {w : World} {K : PySem.W.Frag} {mg : Str → Option Value} {base : Heap}
theorem pure_init (vs : List V) (H : Hp) (Q : VK) (E : XK) (h : spInit K vs H Q E) : t_init K { nx := fun _ H' => Q .non H', rt := Q } (L2.start ["self", "word", "at"] vs) H := by
  obtain ⟨a, C, w, n, rfl, T, ha, k⟩ := h
  exact ⟨_, rfl, _, rfl, a, C, rfl, T.oex, T.noW, .inl ⟨ha, fun dx hn ne => ⟨_, rfl, _, rfl, a, C, rfl, T.oex, T.noA, .inr ⟨dx, _, upd_same, by rw [upd_ne ne, upd_same], Nat.le_of_ble_eq_true rfl, k dx hn ne⟩⟩⟩⟩
/-- the two classes that are raised -/
abbrev iPaper : Nat := 5
abbrev iUse : Nat := 6
theorem sc_initP : FnScope ["self", "word", "at"] ["self", "word", "at"] (defScope (firstS iPaper)) := ⟨rfl, rfl, rfl, by decide +kernel, rfl, by decide +kernel, by decide +kernel⟩
theorem sc_initU : FnScope ["self", "word", "at"] ["self", "word", "at"] (defScope (firstS iUse)) := ⟨rfl, rfl, rfl, by decide +kernel, rfl, by decide +kernel, by decide +kernel⟩
theorem spInit_len {vs : List V} {H : Hp} {Q : VK} {E : XK} (h : spInit K vs H Q E) : vs.length = 3 := by
  obtain ⟨a, C, w, n, rfl, _⟩ := h; rfl
theorem ok_initP {f : Addr} {fd : FuncData} (F : Fun K "__init__" "InvalidPaper.__init__" (firstS iPaper) f fd) : FnOk P w K mg base CX0 1 f fd ["self", "word", "at"] (spInit K) :=
  F.ok sc_initP (fun vs H Q E h => spInit_len h) fun cdv A outer s H vs Q E hr h =>
    ⟨t_init K, pss_cons (ps_ost (pe_var (i := 0) rfl (.inl rfl)) (pe_var (i := 1) rfl (.inl rfl))) (pss_one (ps_ost (pe_var (i := 0) rfl (.inl rfl)) (pe_var (i := 2) rfl (.inl rfl)))), pure_init vs H Q E h⟩
theorem ok_initU {f : Addr} {fd : FuncData} (F : Fun K "__init__" "NotUsable.__init__" (firstS iUse) f fd) : FnOk P w K mg base CX0 1 f fd ["self", "word", "at"] (spInit K) :=
  F.ok sc_initU (fun vs H Q E h => spInit_len h) fun cdv A outer s H vs Q E hr h =>
    ⟨t_init K, pss_cons (ps_ost (pe_var (i := 0) rfl (.inl rfl)) (pe_var (i := 1) rfl (.inl rfl))) (pss_one (ps_ost (pe_var (i := 0) rfl (.inl rfl)) (pe_var (i := 2) rfl (.inl rfl)))), pure_init vs H Q E h⟩
end
/-- a class that may be raised, by its name x -/
structure Rai (P : Program) (w : World) (K : PySem.W.Frag) (mg : Str → Option Value) (base : Heap) (x : Str) (C fI : Addr) (fd : FuncData) : Prop where
  err : Err K C
  gC : mg x = some (.ref C)
  iC : PySem.W.findIn K (.ref C) "__init__" = some (some (.ref fI))
  tI : PySem.W.typeIn K (.ref fI) = some (.type "function")
  init : FnOk P w K mg base CX0 1 fI fd ["self", "word", "at"] (spInit K)
  b : Binds K fd ["self", "word", "at"] []
/-- raise C(word, at) -/
def dRaise (C : Addr) (ta : DA) : DS := fun E δ M => ta δ M fun ds M1 => match ds with
  | [.dat (.str w), .dat (.int n)] => E.xn ⟨C, w, n⟩ δ M1
  | _ => False
section
variable {X : Cx} {x : Str} {C fI : Addr} {fd : FuncData} {e : Expr} {es : List Expr} {ta : DA} {p pos pos2 : Pos}
theorem upd_del {H : Hp} {a dx : Addr} {o1 o2 o3 o4 o5 : HO} (ha : H a = none) (ne : dx ≠ a) : upd (del (upd (upd (upd (upd H a o1) dx o2) a o3) dx o4) a) dx o5 = upd H dx o5 := by
  funext b
  by_cases e : b = dx
  · subst e; rw [upd_same, upd_same]
  · rw [upd_ne e, upd_ne e]
    by_cases f : b = a
    · subst f; rw [del_same, ha]
    · rw [del_ne f, upd_ne e, upd_ne f, upd_ne e, upd_ne f]
/-- the end of C(word, at): the exception stands, its context is None -/
theorem made_N {pins : List (Addr × Obj)} {σ : L2.St} {H1 H2 : Hp} {Q : XK} {hp hp2 h2 : Heap} {g1 g2 : Array GenState} {d1 d2 : Drawn} {t1 t2 : Nat} {os1 os2 : OsState} {a d : Addr} {fs : List (Str × V)} (T : Raises X (.ref C)) (I1 : Inv X pins σ H1 ⟨hp, g1, d1, t1, os1⟩)
    (ha : hp.objs.size ≤ a) (k : ∀ b o, hp.get? b = some o → hp2.get? b = some o) (un : Un (frs X.stack) [] (upd H1 a (exo a C none)) H2 hp2 h2) (hok : HOk X.prog X.w H2 h2) (ho : os2 = os1) (hb : AllBare g2)
    (ea : H2 a = some (exo a C (some d))) (ed : H2 d = some (exd d fs)) (hd1 : H1 d = none) (q : Q (.ref C) (some d) (upd (del H2 a) d (.xd fs))) : L2N.MkP X pins σ Q (.ref a) ⟨h2, g2, d2, t2, os2⟩ := by
  obtain ⟨t0, G, J, kG, ge, hoe, na⟩ := mk_end0 (d2 := d2) (t2 := t2) I1 ha k un hok ho hb ea ed hd1
  exact ⟨a, _, _, ⟨G, g2, d2, t2, os2⟩, _, .ref C, some d, rfl, J, kG, ge, hoe, ⟨rfl, rfl, fun vs e => by cases e; rfl⟩, rfl, rfl, na, rfl, hb, T, q⟩
theorem pmk_N {k : Nat} {ps : List Str} {sp : Sp} {ta : TA} {ds : List Value} {dvs : List V} (T : OexC X.K C) (iC : PySem.W.findIn X.K (.ref C) "__init__" = some (some (.ref fI))) (tI : PySem.W.typeIn X.K (.ref fI) = some (.type "function")) (F1 : FnOk X.prog X.w X.K X.mg X.base CX0 k fI fd ps sp) (hr : Room (k + 1) X.A)
    (hb : Binds X.K fd ps ds) (hd : Vals dvs ds) (hg : Gl X x) (hm : X.mg x = some (.ref C)) (ha : PA X (e :: es) ta) (hdb : (x == ("__debug__" : Str)) = false := by decide) (he : starEach (e :: es) X.env = (false, eval e X.env) :: starEach es X.env := by rfl) (hpl : (backTo pos (starEach es X.env)).any (·.1) = false := by rfl) :
    L2N.PMk X (.Call (.Name x p) (e :: es) [] pos) (tMkO C sp dvs ta) := fun pins s σ H Q I h => by
  obtain ⟨nm, q, N, bs, bm, sn, sub, ab, col, dd, k0, k1, k2, k3, k5, hC, hbm⟩ := T.cls
  refine wpAny_Call_Name_kw (ld_glob I hg hm ?_ hdb)
  refine PySem.W.callWith_K (h₀ := X.base) I.ok.mod.kin T.kC (thn (ha.run pos pins s σ H _ I h) fun us s1 ⟨vs, H1, I1, r1, hz, q1⟩ => ⟨I1.kIn, ?_⟩) he hpl
  change wpAny _ _ (call (.ref C) us) _ _ _
  obtain ⟨hp, g, dr, tk, os⟩ := s1
  have up : hp.objs.size ≤ hp.objs.size + 1 := Nat.le_succ _
  have hq := q1 (hp.objs.size + 1) (I1.hok.fresh up)
  have old : ∀ b o, hp.get? b = some o → ((hp.push (PySem.W.kdv_tup us)).push (PySem.HandSPX.excO C hp.objs.size)).get? b = some o := fun b o e => Heap.get?_push_of_some _ (Heap.get?_push_of_some _ e)
  have new : ((hp.push (PySem.W.kdv_tup us)).push (PySem.HandSPX.excO C hp.objs.size)).get? (hp.objs.size + 1) = some (PySem.HandSPX.excO C hp.objs.size) := by heap_get
  have I2 : Inv X pins σ (upd H1 (hp.objs.size + 1) (exo (hp.objs.size + 1) C none)) ⟨(hp.push (PySem.W.kdv_tup us)).push (PySem.HandSPX.excO C hp.objs.size), g, dr, tk, os⟩ := I1.laid (t' := tk) (o := exo (hp.objs.size + 1) C none) old up (exo_ok new)
  have r2 : Vals (V.ref (hp.objs.size + 1) :: (vs ++ dvs)) (Value.ref (hp.objs.size + 1) :: (us ++ ds)) := .cons rfl (r1.append hd)
  have len : (Value.ref (hp.objs.size + 1) :: us ++ ds).length = ps.length := by
    have e := r2.length
    rw [F1.len _ _ _ _ hq] at e
    exact e.symm
  have small : us.length ≤ sizeLine := by
    rw [← Paired.length r1, sizeLine_eq]
    omega
  refine wpAny_call (PySem.HandSPX.call_own F.excBase_ValueError (fun Y => PySem.HandSPX.refsVE_contains Y bm hbm) (I1.kIn _ _ hC) (PySem.W.looks_findIn I1.kIn iC) (fun self => PySem.W.bind_fn I1.kIn self tI) small
    (codeAny_mono (F1.run _ X.stack _ _ ⟨Value.ref (hp.objs.size + 1) :: us, []⟩ (Value.ref (hp.objs.size + 1) :: (us ++ ds)) _ _ (fun _ _ _ => False) (hr.make C us []) (I2.env0.make C us []) (hb _ (Value.ref (hp.objs.size + 1) :: us) I2.kIn len) r2 hq) fun r s' hq' => ?_))
  cases r with
  | error er => exact hq'.elim
  | ok fl =>
    cases fl with
    | ret u =>
      obtain ⟨v, H2, os2, bare2, un2, hok2, rv, ev, d, fs, ea, ed, hd1, q2⟩ := hq'
      subst ev
      obtain ⟨h2, g2, d2, t2, os'⟩ := s'
      exact ⟨rv, made_N (raises_own T.exC T.tyC) I1 up old un2 hok2 os2 bare2 ea ed hd1 q2⟩
    | next => exact False.elim hq'
    | brk => exact False.elim hq'
    | cont => exact False.elim hq'
theorem qs_raise (hc : X.calm = true) (T : Rai X.prog X.w X.K X.mg X.base x C fI fd) (hr : Room 2 X.A) (hg : Gl X x) (ha : QA X (e :: es) ta)
    (hdb : (x == ("__debug__" : Str)) = false := by decide) (he : starEach (e :: es) X.env = (false, eval e X.env) :: starEach es X.env := by rfl) (hpl : (backTo pos (starEach es X.env)).any (·.1) = false := by rfl) :
    QS X (.Raise (some (.Call (.Name x p) (e :: es) [] pos)) none pos2) (dRaise C ta) :=
  PS_imp (L2N.ps_raise hc (takes_c X) (pmk_N (k := 1) (ds := []) (dvs := []) T.err.oex T.iC T.tI T.init hr T.b .nil hg T.gC ha hdb he hpl)) fun E σ H ⟨S, δ, M, Ed, r, h, k⟩ => by
    refine ⟨S, δ, M, _, r, h, fun ds M1 vs H1 g1 m1 dv q => ?_⟩
    split at q
    · rename_i w n
      obtain ⟨v1, v2, rfl, r1, r2⟩ := dvs2 dv
      cases dv_str r1
      cases dv_int r2
      refine ⟨Nat.le_of_ble_eq_true rfl, fun a hn => ⟨a, C, w, n, rfl, T.err, upd_same, fun dx hd ne => ⟨rfl, dx, [("at", .int n), ("word", .str w)], by rw [upd_ne (Ne.symm ne), upd_same], upd_same, by rw [upd_ne ne] at hd; exact hd, ?_⟩⟩⟩
      rw [upd_del hn ne]
      have hd' : H1 dx = none := by rw [upd_ne ne] at hd; exact hd
      obtain ⟨m2, g2, i2⟩ := m1.new hd' (xdF w n)
      exact k.xn ⟨C, w, n⟩ dx δ M1 σ _ (g1.trans g2) (r.grow (g1.trans g2) m2) i2 q
    · exact q.elim
end

/-! ### defs that may raise -/
section
variable {P : Program} {w : World} {K : PySem.W.Frag} {mg : Str → Option Value} {base : Heap} {x qual : Str} {st : Stmt} {f : Addr} {fd : FuncData} {N ps : List Str} {k : Nat} {t : DS}
theorem Imm.less {Z : Hid} {M : Mp} {H : Hp} : Same (Imm M Z H) (Imm M0 Z H) := fun b o h => let ⟨_, h2, h3⟩ := imm_some.mp h; imm_some.mpr ⟨rfl, h2, h3⟩
theorem okN {sp : Sp} (F : Fun K x qual st f fd) (S : FnScope N ps (defScope st)) (len : ∀ vs H Q E, sp vs H Q E → vs.length = ps.length)
    (hbody : ∀ (cdv : Value) (A : Around) (outer : List Env) (s : Shared) (H : Hp) (vs : List V) (Q : VK) (E : XK), Room k (A.deeper (envOfC qual (defScope st) s.heap.objs.size f cdv)) → sp vs H Q E →
      ∃ t, PSs (cxOf (L2N.CX P w) P w K mg base N qual (defScope st) f cdv A outer s H E) (defBody st) t ∧ t { nx := fun _ H' => Q .non H', rt := Q } (L2.start N vs) H) : FnOk P w K mg base (L2N.CX P w) (k + 1) f fd ps sp := by
  obtain ⟨oc, od, kV, doc, pm, an, cdv, ct, osl, rfl, lk, hcd⟩ := F.ex
  exact fn_of lk hcd S len fun A outer s H vs Q E hr hsp => hbody cdv A outer s H vs Q E hr hsp
theorem fn_pureX {sp : PSp} (F : Fun K x qual st f fd) (S : FnScope N ps (defScope st)) (hlen : ∀ qs Qd Ed, sp qs Qd Ed → qs.length = ps.length)
    (walk : ∀ (cdv : Value) (A : Around) (outer : List Env) (s : Shared) (H : Hp) (E : XK), Room k (A.deeper (envOfC qual (defScope st) s.heap.objs.size f cdv)) → QSs (cxOf (L2N.CX P w) P w K mg base N qual (defScope st) f cdv A outer s H E) (defBody st) t)
    (law : ∀ qs Qd Ed, sp qs Qd Ed → t { nx := fun _ _ => Qd .none, rt := fun d M => ∃ r, viewD M d = some r ∧ Qd r, xn := fun x _ _ => Ed x } (startD N (qs.map .dat)) M0) : FnOk P w K mg base (L2N.CX P w) (k + 1) f fd ps (pureSp sp) := by
  refine okN F S (fun vs H Q E ⟨Z, qs, Qd, Ed, _, dq, h, _⟩ => by rw [dq.length]; exact hlen _ _ _ h) fun cdv A outer s H vs Q E hr hs => ⟨_, walk cdv A outer s H E hr, ?_⟩
  obtain ⟨Z, qs, Qd, Ed, hZ, dq, h, k1, k2⟩ := hs
  refine ⟨Z, startD N (qs.map .dat), M0, _, ⟨rep0 hZ, slots_start N dq.dvs⟩, law qs Qd Ed h, ⟨fun δ' M' σ' H' g r q => ?_, fun d M' v H' g m r ⟨z, e, q⟩ => ?_, fun _ _ _ _ _ _ q => q, fun _ _ _ _ _ _ q => q, fun x d δ' M' σ' H' g r i q => ?_⟩⟩
  · exact k1 .none .non H' (grow0 g) .non q
  · exact k1 z v H' (grow0 g) (viewD_ok m r e) q
  · exact Wc.of (W := fun cls d _ H => E cls d H) (L2N.takes_of rfl rfl rfl rfl) (k2 x d H' (grow0 g) (Imm.less _ _ i) q)
end

/-! ### try: .. except C as n: .. -/
/-- name = f(..), f a def that may raise -/
def dAsgX (i : Nat) (sp : PSp) (ta : DA) : DS := fun E δ M => ta δ M fun ds M1 => ∃ ps, datsOf ds = some ps ∧ sp ps (fun r => E.nx (δ.set i (some (.dat r))) M1) (fun x => E.xn x δ M1)
/-- the ends within a suite that catches -/
def suiteE (i : Nat) (E : DEnds) : DEnds := { nx := fun δ2 M2 => E.nx (δ2.set i none) M2, rt := E.rt, bk := fun δ2 M2 => E.bk (δ2.set i none) M2, ct := fun δ2 M2 => E.ct (δ2.set i none) M2 }
def dTry (C : Addr) (i : Nat) (tb : DS) (ts : Addr → Addr → DS) : DS := fun E δ M =>
  tb { nx := E.nx, rt := E.rt, bk := E.bk, ct := E.ct, xn := fun x δ' M' => x.cls = C ∧ ∀ a d, M' a = none → ts a d (suiteE i E) (δ'.set i (some (.exn a d x.word x.num))) M' } δ M
/-- e.word, e.at -/
def dWord (a dd : Addr) (te : DE) : DE := fun δ M Q => te δ M fun d M1 => match d with
  | .exn a' d' w _ => a' = a ∧ d' = dd ∧ Q (.dat (.str w)) M1
  | _ => False
def dAt (a dd : Addr) (te : DE) : DE := fun δ M Q => te δ M fun d M1 => match d with
  | .exn a' d' _ n => a' = a ∧ d' = dd ∧ Q (.dat (.int n)) M1
  | _ => False
/-- the suite's reading: what is caught is of the class C -/
def liftTry (W : WX) (C : Addr) (ts : Addr → Addr → DS) : Addr → Value → Option Addr → TS := fun a cls d E σ H => ∃ dd, d = some dd ∧ cls = .ref C ∧ liftS W (ts a dd) E σ H
abbrev WF : WX := fun _ _ _ _ => False
section
variable {X : Cx} {x n : Str} {C : Addr} {i : Nat} {body suite : List Stmt} {b₀ : Stmt} {np pos pos' : Pos} {tb : DS} {ts : Addr → Addr → DS}
theorem liftS_W {W W' : WX} {t : DS} (h : ∀ c d σ H, W' c d σ H → W c d σ H) {E : Ends} {σ : L2.St} {H : Hp} (q : liftS W' t E σ H) : liftS W t E σ H := by
  obtain ⟨S, δ, M, Ed, r, q, k⟩ := q
  exact ⟨S, δ, M, Ed, r, q, ⟨k.nx, k.rt, k.bk, k.ct, fun x d δ' M' σ' H' g r i q => h _ _ _ _ (k.xn x d δ' M' σ' H' g r i q)⟩⟩
theorem qs_try (T : Err X.K C) (hs : X.stack = X.env :: X.outer) (hf : X.env.frame = some X.env.locals) (hN : X.N.Nodup) (hi : X.N[i]? = some n) (hln : X.env.kindOf n = some .local) (hc : Names X x (.ref C))
    (hb : ∀ (pn : List (Addr × Obj)) (xe : Value → Shared → Prop), PassesOwn (model X.prog X.w) X.A X.env xe → QSs (X.tr pn xe) body tb)
    (hsu : ∀ (a : Addr) (oe : Obj) (cls : Value) (dd : Addr) (pn : List (Addr × Obj)), L2N.Zn cls (some dd) oe → (∃ vs, oe.data = .fields vs) → cls = .ref C → QSs (X.suite a ((a, oe) :: pn)) (b₀ :: suite) (ts a dd)) :
    QS X (.Try body [.ExceptHandler (some (.Name x np)) (some n) (b₀ :: suite) pos'] [] [] pos) (dTry C i tb ts) :=
  PS_imp (L2N.ps_try_as (i := i) (c := .ref C) (tb := fun W => liftS W tb) (ts := liftTry WF C ts) (Wout := WF) hs hf hN hi hln hc takesN0
    (fun W pn xe tk po => PSs_imp (hb pn xe po) fun E σ H q => liftS_W (fun _ _ _ _ w => Wc.of tk w) q)
    (fun a oe cls d pn hz hv => ⟨fun pins s σ H E I ⟨dd, ed, ec, q⟩ => by
      subst ed
      exact (hsu a oe cls dd pn hz hv ec).run pins s σ H E I (liftS_W (fun _ _ _ _ w => w.elim) q)⟩)) fun E σ H ⟨S, δ, M, Ed, r, h, k⟩ => by
    unfold dTry at h
    refine ⟨S, δ, M, _, r, h, ⟨k.nx, k.rt, k.bk, k.ct, fun x d δ' M' σ' H' g r' im q => ?_⟩⟩
    obtain ⟨ec, q⟩ := q
    refine ⟨true, by rw [ec]; exact T.te, fun _ a ha => ⟨d, rfl, by rw [ec], S, _, M', _, r'.set i (v := .ref a) (d := .exn a d x.word x.num) ⟨rfl, im⟩, q a d (r'.m.free ha), ⟨fun δ2 M2 σ2 H2 g2 r2 q2 => ?_, k.rt.grow g, fun δ2 M2 σ2 H2 g2 r2 q2 => ?_, fun δ2 M2 σ2 H2 g2 r2 q2 => ?_, fun _ _ _ _ _ _ _ _ _ z => z.elim⟩⟩, fun z => by cases z⟩
    · exact k.nx _ M2 _ H2 (g.trans g2) ⟨r2.m, r2.s.unset i none⟩ q2
    · exact k.bk _ M2 _ H2 (g.trans g2) ⟨r2.m, r2.s.unset i none⟩ q2
    · exact k.ct _ M2 _ H2 (g.trans g2) ⟨r2.m, r2.s.unset i none⟩ q2
theorem q_word {a : Addr} {oe : Obj} {cls : Value} {dd : Addr} {pn : List (Addr × Obj)} {e : Expr} {te : DE} (T : Err X.K C) (hz : Zc cls (some dd) oe) (hf : ∃ vs, oe.data = .fields vs) (ec : cls = .ref C) (he : QE (X.suite a ((a, oe) :: pn)) e te)
    (hb : attributeBase e "word" X.env (eval e X.env) = eval e X.env := by rfl) : QE (X.suite a ((a, oe) :: pn)) (.Attribute e "word" pos) (dWord a dd te) :=
  PE_imp (pe_xf (C := C) T.xf T.noW hz hf he hb) fun σ H Q ⟨S, δ, M, Qd, r, h, k⟩ => ⟨S, δ, M, _, r, h, fun d M1 v H1 g1 m1 r1 q => by
    cases d with
    | dat p => exact q.elim
    | ref b => exact q.elim
    | exn a' d' w n =>
    have q : a' = a ∧ d' = dd ∧ Qd (.dat (.str w)) M1 := q
    obtain ⟨rfl, rfl, q3⟩ := q
    obtain ⟨ev, im⟩ := (show _ ∧ _ from r1)
    exact ⟨ev, ec, _, _, _, rfl, imm_sub _ _ im, (by rfl : List.lookup ("word" : Str) [(("at" : Str), V.int n), (("word" : Str), V.str w)] = some (.str w)), k (.dat (.str w)) _ _ _ g1 m1 dvS q3⟩⟩
theorem q_at {a : Addr} {oe : Obj} {cls : Value} {dd : Addr} {pn : List (Addr × Obj)} {e : Expr} {te : DE} (T : Err X.K C) (hz : Zc cls (some dd) oe) (hf : ∃ vs, oe.data = .fields vs) (ec : cls = .ref C) (he : QE (X.suite a ((a, oe) :: pn)) e te)
    (hb : attributeBase e "at" X.env (eval e X.env) = eval e X.env := by rfl) : QE (X.suite a ((a, oe) :: pn)) (.Attribute e "at" pos) (dAt a dd te) :=
  PE_imp (pe_xf (C := C) T.xf T.noA hz hf he hb) fun σ H Q ⟨S, δ, M, Qd, r, h, k⟩ => ⟨S, δ, M, _, r, h, fun d M1 v H1 g1 m1 r1 q => by
    cases d with
    | dat p => exact q.elim
    | ref b => exact q.elim
    | exn a' d' w n =>
    have q : a' = a ∧ d' = dd ∧ Qd (.dat (.int n)) M1 := q
    obtain ⟨rfl, rfl, q3⟩ := q
    obtain ⟨ev, im⟩ := (show _ ∧ _ from r1)
    exact ⟨ev, ec, _, _, _, rfl, imm_sub _ _ im, (by rfl : List.lookup ("at" : Str) [(("at" : Str), V.int n), (("word" : Str), V.str w)] = some (.int n)), k (.dat (.int n)) _ _ _ g1 m1 dvI q3⟩⟩
/-- the promise of a def that may raise, at a call -/
theorem callX_lift {sp : PSp} {W : WX} {S : Hid} {δ : Sd} {M M1 : Mp} {σ : L2.St} {H H1 : Hp} {Ed : DEnds} {E : Ends} {vs : List V} {ds : List D} {ps : List PyData} {Qd : PyData → Prop} {Q : VK} (r : Rep S δ M σ H) (k : EndsOk W S M H Ed E) (g1 : Grow M H M1 H1) (m1 : RepM S M1 H1) (r1 : DVs (Imm M1 S H1) vs ds)
    (e : datsOf ds = some ps) (q : sp ps Qd (fun x => Ed.xn x δ M1)) (fin : ∀ rr v H', Grow M H M1 H' → Rep S δ M1 σ H' → DV (Imm M1 S H') v (.dat rr) → Qd rr → Q v H') : pureSp sp vs H1 Q (WE W σ) := by
  refine ⟨hidM M1 S, ps, _, _, hidM_ok m1, by rw [imm_hidM]; exact r1.dats e, q, fun rr v H' e' dq qq => ?_, fun x d H' e' im qq => ?_⟩
  · have m2 := m1.same e'
    have gg := g1.trans (Grow.same e')
    rw [imm_hidM] at dq
    exact fin rr v H' gg (r.grow gg m2) dq qq
  · have m2 := m1.same e'
    have gg := g1.trans (Grow.same e')
    rw [imm_hidM] at im
    exact k.xn x d δ M1 σ H' gg (r.grow gg m2) im qq
theorem qs_asgX {f : Addr} {fd : FuncData} {k : Nat} {ps : List Str} {y : Str} {e : Expr} {es : List Expr} {ta : DA} {p cpos : Pos} {sp : PSp} (F : FnOk X.prog X.w X.K X.mg X.base (L2N.CX X.prog X.w) k f fd ps (pureSp sp)) (hr : Room k X.A) (hg : Gl X y) (hm : X.mg y = some (.ref f)) (hk : PySem.W.keepIn X.K (.ref f) = true) (hb : Binds X.K fd ps [])
    (hN : X.N.Nodup) (hi : X.N[i]? = some x) (hx : Loc X.env.scope x) (ha : QA X (e :: es) ta) (hs : swapsWith (.Call (.Name y p) (e :: es) [] cpos) (some (.Name x pos')) pos.line X.env = pure false := by rfl) (hf : X.fn x = true ∨ X.env.scope.names.lookup x = some .local := by first | exact .inl rfl | exact .inr rfl | assumption)
    (hdb : (y == ("__debug__" : Str)) = false := by decide) (he : starEach (e :: es) X.env = (false, eval e X.env) :: starEach es X.env := by rfl) (hpl : (backTo cpos (starEach es X.env)).any (·.1) = false := by rfl) :
    QS X (.Assign [.Name x pos'] (.Call (.Name y p) (e :: es) [] cpos) pos) (dAsgX i sp ta) :=
  PS_imp (ps_set hN hi hx (pe_callS F hr hg hm hk hb (fun σ => L2N.passAt (takes_c X) σ) ha hdb he hpl) hs hf) fun E σ H ⟨S, δ, M, Ed, r, h, k⟩ =>
    ⟨S, δ, M, _, r, h, fun ds M1 vs H1 g1 m1 r1 ⟨ps, e, q⟩ => callX_lift r k g1 m1 r1 e q fun rr v H' gg rp dq qq => k.nx _ M1 _ H' gg (rp.set i dq) qq⟩
end
end DL
set_option Elab.async false
set_option linter.all false
set_option maxRecDepth 100000
set_option maxHeartbeats 4000000
/-! RXd: calls whose arguments are all keywords, in the reverse order of the parameters. -/
namespace DL
open PySem PySem.Spec PyProof.Rows L2
def revV (vs zs : List V) : List V := vs ++ zs.reverse
def revU (us ws : List Value) : List Value := us ++ ws.reverse
theorem vals_rev : ∀ {zs : List V} {ws : List Value}, Vals zs ws → Vals zs.reverse ws.reverse
  | _, _, .nil => .nil
  | _, _, .cons h t => by
    rw [List.reverse_cons, List.reverse_cons]
    exact (vals_rev t).append (.cons h .nil)
theorem DVs_rev {HI : Hp} : ∀ {zs : List V} {ws : List D}, DVs HI zs ws → DVs HI zs.reverse ws.reverse
  | _, _, .nil => .nil
  | _, _, .cons h t => by
    rw [List.reverse_cons, List.reverse_cons]
    exact DVs_append (DVs_rev t) (.cons h .nil)
abbrev RevB (K : PySem.W.Frag) (fd : FuncData) (ps : List Str) : Prop := KBinds K fd ps ps.reverse revU revV
abbrev QK (X : Cx) (kws : List Keyword) (t : DA) : Prop := PK X kws (liftA t)
def tKw0 (sp : Sp) (E : XK) (tk : TA) : TE := fun σ H Q => tk σ H fun zs H2 => sp (revV [] zs) H2 Q E
/-- f(k = v, ..) -/
def dCallKw (sp : PSp) (ta : DA) : DE := fun δ M Q => ta δ M fun ds M1 => ∃ ps, datsOf ds.reverse = some ps ∧ sp ps (fun r => Q (.dat r) M1) (fun _ => False)
section
variable {X : Cx} {CX : CXT} {k : Nat} {f : Addr} {fd : FuncData} {ps : List Str} {x : Str} {p pos kpos : Pos} {e : Expr} {kws : List Keyword} {te : DE} {ta : DA} {nm : Option Str}
theorem qk_nil : QK X [] aNil := ⟨fun pos pins s σ H Q I ⟨S, δ, M, Qd, r, h, k⟩ => pk_nil.run pos pins s σ H Q I (k [] M [] H .refl r.m .nil h)⟩
theorem qk_cons (ha : QE X e te) (hr : QK X kws ta) : QK X (⟨nm, e, kpos⟩ :: kws) (aCons te ta) := ⟨fun pos pins s σ H Q I ⟨S, δ, M, Qd, r, h, k⟩ => (pk_cons ha hr).run pos pins s σ H Q I
  ⟨S, δ, M, _, r, h, fun d M1 v H1 g1 m1 r1 q1 => ⟨S, δ, M1, _, r.grow g1 m1, q1, fun ds M2 vs H2 g2 m2 r2 q2 => k _ _ _ _ (g1.trans g2) m2 (.cons (r1.mono (g2.imm S)) r2) q2⟩⟩⟩
theorem pe_kw0 {sp : Sp} {E : XK} {tk : TA} (F : FnOk X.prog X.w X.K X.mg X.base CX k f fd ps sp) (hr : Room k X.A) (hg : Gl X x) (hm : X.mg x = some (.ref f)) (hk : PySem.W.keepIn X.K (.ref f) = true) (hb : RevB X.K fd ps) (hx : Passes CX X E) (hkw : PK X kws tk)
    (hall : (backToKw pos (keywordEach kws X.env)).all (·.1.isSome) = true := by rfl) (hks : (backToKw pos (keywordEach kws X.env)).filterMap (·.1) = ps.reverse := by rfl) (hdb : (x == ("__debug__" : Str)) = false := by decide)
    (hpl : ((backTo pos (starEach [] X.env)).any (·.1) || (backToKw pos (keywordEach kws X.env)).any (·.1.isNone)) = false := by rfl) : PE X (.Call (.Name x p) [] kws pos) (tKw0 sp E tk) := by
  refine ⟨fun pins s σ H Q I h => ?_⟩
  refine wpAny_Call_Name_kw (ld_glob I hg hm ?_ hdb)
  refine PySem.W.callWith_KW0 (h₀ := X.base) I.ok.mod.kin hk hall (thn (hkw.run pos pins s σ H _ I h) fun ws s2 ⟨zs, H2, I2, rz, q2⟩ => ⟨I2.kIn, ?_⟩) hpl
  rw [hks]
  exact run_fnk F hr hb hx I2 (us := []) (vs := []) .nil rz q2
theorem callKw_lift {sp : PSp} {σ : L2.St} {H : Hp} {Q : VK} {E : XK} (h : liftE (dCallKw sp ta) σ H Q) : tKw0 (pureSp sp) E (liftA ta) σ H Q := by
  obtain ⟨S, δ, M, Qd, r, h, k⟩ := h
  refine ⟨S, δ, M, _, r, h, fun ds M1 vs H1 g1 m1 r1 ⟨ps, e, q⟩ => ?_⟩
  refine ⟨hidM M1 S, ps, _, _, hidM_ok m1, by rw [imm_hidM]; exact (DVs_rev r1).dats e, q, fun rr v H' e' dq qq => ?_, fun _ _ _ _ _ z => z.elim⟩
  have m2 := m1.same e'
  rw [imm_hidM] at dq
  exact k (.dat rr) _ _ _ (g1.trans (Grow.same e')) m2 dq qq
theorem q_callKw {sp : PSp} (F : FnOk X.prog X.w X.K X.mg X.base CX k f fd ps (pureSp sp)) (hr : Room k X.A) (hg : Gl X x) (hm : X.mg x = some (.ref f)) (hk : PySem.W.keepIn X.K (.ref f) = true) (hb : RevB X.K fd ps) (hx : Passes CX X E0) (hkw : QK X kws ta)
    (hall : (backToKw pos (keywordEach kws X.env)).all (·.1.isSome) = true := by rfl) (hks : (backToKw pos (keywordEach kws X.env)).filterMap (·.1) = ps.reverse := by rfl) (hdb : (x == ("__debug__" : Str)) = false := by decide)
    (hpl : ((backTo pos (starEach [] X.env)).any (·.1) || (backToKw pos (keywordEach kws X.env)).any (·.1.isNone)) = false := by rfl) : QE X (.Call (.Name x p) [] kws pos) (dCallKw sp ta) :=
  PE_imp (pe_kw0 F hr hg hm hk hb hx hkw hall hks hdb hpl) fun _ _ _ => callKw_lift
end
end DL
set_option Elab.async false
set_option linter.all false
set_option maxRecDepth 100000
set_option maxHeartbeats 4000000
/-! RXe: a lambda without parameters, made and handed to a def that calls it. -/
namespace DL
open PySem PySem.Spec PyProof.Rows L2
abbrev lamQ (X : Cx) : Str := X.env.qual ++ "<lambda>"
/-- the context of a lambda's body; what leaves it has no context of its own -/
abbrev lamN (X : Cx) (A : Around) (outer : List Env) (s : Shared) (H : Hp) (E : XK) (scope : Scope) (f c' : Addr) : Cx := (LamX.lamCx X A outer s H E scope f c').wish fun e s' => wpAny (model X.prog X.w) (A.deeper (LamX.lamEnv X scope s.heap.objs.size f c')) (leaving (LamX.lamEnv X scope s.heap.objs.size f c') e)
  (fun _ s'' => L2N.CX X.prog X.w outer H s E e s'') (fun e' s'' => L2N.CX X.prog X.w outer H s E e' s'') s'
section
variable {X : Cx} {pins : List (Addr × Obj)} {σ : L2.St} {H : Hp} {s : Shared}
/-- the lambda is made: only the def's table of code objects may have changed -/
theorem make_lam {S : Hid} {M : Mp} {c P : Addr} {params : Arguments} {body : Expr} {scope : Scope} {pos : Pos} {E Q : Value → Shared → Prop} (I : Inv X pins σ H s) (TB : LamX.TabB X.base X.mg c P) (hcode : X.env.code = .ref c) (m : RepM S M H) (eP : M P = some (.cod (lamQ X)))
    (hdef : defaultsOf params X.env = ([], [])) (hfree : ∀ y ∈ scope.names, y.2 = .free → ∃ c, X.env.cells.lookup y.1 = some c)
    (h : ∀ (f c' : Addr) (pm ctv : Value) (H1 : Hp) (s' : Shared), Inv X pins σ H1 s' → Grow M H M H1 → RepM S M H1 → s'.heap.get? f = some (PySem.W.kla_obj "<lambda>" (lamQ X) params body scope (cloFrom X.env.cells scope.names []) pm c' ctv) → H1 f = none → f ∉ frs X.stack →
      H1 c' = some (LamX.CodeO c' (lamQ X)) → Q (.ref f) s') : wpAny (model X.prog X.w) X.A (eval (.Lambda params body scope pos) X.env) Q E s := by
  obtain ⟨ps, hP, tri, among⟩ := m.obj P _ eP
  have bP : s.heap.BuiltinsAt X.mg P := TB.bm.keeps I.bk
  have cellP : s.heap.get? P = some { cls := .none, data := .fields ps } := I.hok P _ hP
  have notFrame : ∀ f, s.heap.objs.size ≤ f → f ∉ frs X.stack := fun f hf z => by
    rcases List.mem_cons.mp (I.stkSub _ z) with e | e
    · have lt := I.lt
      rw [← e] at lt
      exact Nat.lt_irrefl _ (Nat.lt_of_lt_of_le lt hf)
    · exact I.nofs hf e
  refine PySem.W.kla_eval hdef ?_
  cases known : codeAmong pos ps.toList with
  | some cv =>
    obtain ⟨c', rfl, hc'⟩ := among pos cv known
    refine PySem.W.kla_makeFunctionHit (mg := X.mg) (c := c) (P := P) (ps := ps) (closure_ok hfree) I.ok.glob (I.mod.glob.keeps I.bk) hcode (TB.code.keeps I.bk) cellP tri known bP fun ctv h' tk kp sz => ?_
    exact h h'.objs.size c' _ ctv H _ (I.kept (t' := tk) fun b o e => Heap.get?_push_of_some _ (kp b o e)) .refl m (Heap.get?_push_size _ rfl) (I.hok.fresh sz) (notFrame _ sz) (imm_sub _ _ hc')
  | none =>
    refine PySem.W.kla_makeFunction (mg := X.mg) (c := c) (P := P) (ps := ps) (closure_ok hfree) I.ok.glob (I.mod.glob.keeps I.bk) hcode (TB.code.keeps I.bk) cellP tri known TB.gP bP fun c' ctv h' tk ext ge lt rec tab => ?_
    obtain ⟨c2, oc, vs, t, e2, hoc, hd, hv⟩ := rec
    cases e2
    have sz : s.heap.objs.size ≤ h'.objs.size := Nat.le_trans ge (Nat.le_of_lt lt)
    have frC : H c' = none := I.hok.fresh ge
    have neP : P ≠ c' := ne_of_none hP frC
    have I1 := LamX.inv_table (q := lamQ X) (t' := tk) (more := #[rawInt pos.line, rawInt pos.col, .ref c']) (h' := h'.push (PySem.W.kla_obj "<lambda>" (lamQ X) params body scope (cloFrom X.env.cells scope.names []) ((X.mg "__name__").getD .none) c' ctv)) I hP
      (fun b o hb e => Heap.get?_push_of_some _ (ext b o hb e)) (Heap.get?_push_of_some _ tab) ge ⟨oc, vs, t, Heap.get?_push_of_some _ hoc, hd, hv⟩
    have far : ∀ b, b ≠ P → b ≠ c' → upd (upd H P (.tbl (ps ++ #[rawInt pos.line, rawInt pos.col, .ref c']))) c' (LamX.CodeO c' (lamQ X)) b = H b := fun b h1 h2 => by rw [upd_ne h2, upd_ne h1]
    have atP : upd (upd H P (.tbl (ps ++ #[rawInt pos.line, rawInt pos.col, .ref c']))) c' (LamX.CodeO c' (lamQ X)) P = some (.tbl (ps ++ #[rawInt pos.line, rawInt pos.col, .ref c'])) := by rw [upd_ne neP, upd_same]
    have g1 : Grow M H M (upd (upd H P (.tbl (ps ++ #[rawInt pos.line, rawInt pos.col, .ref c']))) c' (LamX.CodeO c' (lamQ X))) := fun b o h1 h2 => by
      refine ⟨h1, ?_⟩
      rw [far b (fun z => by rw [z, eP] at h1; cases h1) (ne_of_none h2 frC)]
      exact h2
    have im := g1.imm S
    have new : Imm M S (upd (upd H P (.tbl (ps ++ #[rawInt pos.line, rawInt pos.col, .ref c']))) c' (LamX.CodeO c' (lamQ X))) c' = some (LamX.CodeO c' (lamQ X)) := imm_some.mpr ⟨m.free frC, m.hidF frC, upd_same⟩
    have eL : (ps ++ #[rawInt pos.line, rawInt pos.col, .ref c']).toList = ps.toList ++ [rawInt pos.line, rawInt pos.col, .ref c'] := by simp
    have m1 : RepM S M (upd (upd H P (.tbl (ps ++ #[rawInt pos.line, rawInt pos.col, .ref c']))) c' (LamX.CodeO c' (lamQ X))) := by
      refine ⟨fun a o e => ?_, fun a e => ?_⟩
      · by_cases z : a = P
        · subst z
          rw [eP] at e; cases e
          refine ⟨_, atP, by rw [eL]; exact PySem.TriplesOk_snoc _ _ _ _ tri, fun p' cv hcv => ?_⟩
          rw [eL] at hcv
          rcases LamX.among_app _ tri hcv with q | q
          · obtain ⟨c0, e1, e2⟩ := among p' cv q
            exact ⟨c0, e1, im _ _ e2⟩
          · exact ⟨c', q, new⟩
        · have r := m.obj a o e
          obtain ⟨u, hu⟩ := r.some
          exact r.mono im fun u q => by rw [far a z (ne_of_none q frC)]; exact q
      · obtain ⟨h1, h2⟩ := m.hid a e
        refine ⟨h1, ?_⟩
        rw [far a (fun z => by rw [z, eP] at h1; cases h1) (fun z => by rw [z, frC] at h2; exact h2)]
        exact h2
    have neSz : h'.objs.size ≠ c' := Nat.ne_of_gt lt
    have neSzP : h'.objs.size ≠ P := Nat.ne_of_gt (Nat.lt_of_lt_of_le (Heap.lt_size cellP) sz)
    exact h h'.objs.size c' _ ctv _ _ I1 g1 m1 (Heap.get?_push_size _ rfl) (by rw [far _ neSzP neSz]; exact I.hok.fresh sz) (notFrame _ sz) upd_same
/-- the lambda that stands in slot 0 of another def's frame is called -/
theorem call_lam {qg : Str} {sg : Scope} {Ng : List Str} {g f c' : Addr} {cdg pm ctv : Value} {params : Arguments} {body : Expr} {scope : Scope} {k : Nat} {a : Str} {pn : List (Addr × Obj)} {xe : Value → Shared → Prop} {W : WX} {tb : XK → TE} {p1 p2 : Pos}
    (I : Inv X pins σ H s) (L : LamX.LamS X.env.scope scope) (hf : s.heap.get? f = some (PySem.W.kla_obj "<lambda>" (lamQ X) params body scope (cloFrom X.env.cells scope.names []) pm c' ctv)) (hfn : H f = none) (hfr : f ∉ frs X.stack)
    (hbind : bindArgs (PySem.W.kla_fn "<lambda>" (lamQ X) params body scope (cloFrom X.env.cells scope.names []) pm (.ref c') ctv) ⟨[], []⟩ = pure [])
    (tk : L2N.Takes ((cxOf CX0 X.prog X.w X.K X.mg X.base Ng qg sg g cdg X.A X.stack s H E0).nox.tr pn xe) W) (hr : Room (k + 1) (X.A.deeper (envOfC qg sg s.heap.objs.size g cdg)))
    (hbody : ∀ (A : Around) (outer : List Env) (s : Shared) (H : Hp) (E : XK), Room k (A.deeper (LamX.lamEnv X scope s.heap.objs.size f c')) → PE (lamN X A outer s H E scope f c') body (tb E))
    (hN : Ng[0]? = some a) (hv : Vis sg a) (hd : (a == ("__debug__" : Str)) = false := by decide) (hcd : (a == ("__classdict__" : Str)) = false := by decide) :
    PE ((cxOf CX0 X.prog X.w X.K X.mg X.base Ng qg sg g cdg X.A X.stack s H E0).nox.tr pn xe) (.Call (.Name a p1) [] [] p2) (fun σZ HZ Q => σZ[0]? = some (some (.ref f)) ∧ HZ c' = some (LamX.CodeO c' (lamQ X)) ∧ tb (WE W σZ) σ HZ Q) := ⟨fun pinsZ sZ σZ HZ Q IZ ⟨slot, hco, ht⟩ => by
  refine wpAny_Call_Name_kw (thn ((pe_var (pos := p1) (i := 0) hN hv hd hcd).run pinsZ sZ σZ HZ (fun v H1 => v = .ref f ∧ H1 = HZ) IZ ⟨.ref f, slot, rfl, rfl⟩) fun u s1 ⟨v, H1, I1, r1, ev, eH⟩ => ?_)
  subst ev eH
  obtain rfl : u = Value.ref f := r1
  have cell := I1.base.keep f _ hf hfn hfr (fun z => nomatch (show f ∈ ([] : List Addr) from z))
  obtain ⟨⟨oc, vs, t, hoc, hdc, hvc⟩, _, _⟩ := I1.hok c' _ hco
  have go : codeAny (model X.prog X.w) (X.A.deeper (envOfC qg sg s.heap.objs.size g cdg)) (.call (.ref f) ⟨[], []⟩) (CR (L2N.CX X.prog X.w) (envOfC qg sg s.heap.objs.size g cdg :: X.stack) X.prog X.w H1 s1 Q (WE W σZ)) s1 := by
    refine PySem.W.kla_callFunE hr.depth cell rfl L.co L.gen rfl ⟨c', oc, vs, t, rfl, hoc, hdc, hvc⟩ ?_
    rw [hbind]
    refine wpAny_pure (wpAny_newFunctionEnv (fun y hy => (L.own y hy).2) (fun y hy => absurd hy (by simp)) (fun h1 hns hsb => ⟨I1.nolimit.fresh _ hsb, ?_⟩) L.kind)
    change codeAny _ _ (.expr body (LamX.lamEnv X scope s1.heap.objs.size f c')) _ _
    have J : Inv (lamN X (X.A.deeper (envOfC qg sg s.heap.objs.size g cdg)) (envOfC qg sg s.heap.objs.size g cdg :: X.stack) s1 H1 (WE W σZ) scope f c') [] σ H1 { s1 with heap := h1, toks := s1.toks + ([] : List (Str × Value)).length } :=
      Inv.wish (LamX.lam_start2 (E := WE W σZ) I L I1.env0 hr.hd I1.base hns fun b o e => hsb.extBut b o (Nat.ne_of_lt (Heap.lt_size e)) (Heap.get?_push_of_some _ e)) _
    exact PySem.W.kla_codeExpr (wpAny_mono ((hbody _ _ s1 H1 (WE W σZ) (hr.deeper _)).run [] _ _ H1 Q J ht) (fun v s' ⟨w', H', J', rv, q⟩ => ⟨w', H', J'.os, J'.bare, J'.base, J'.hok, rv, q⟩) fun e s' hq => hq)
  refine PySem.W.callWith_F0 ⟨_, _, _, _, cell⟩ (wpAny_call (codeAny_mono go fun r s' hq => ?_))
  cases r with
  | error e => exact L2N.passAt tk σZ pinsZ H1 s1 e s' I1 hq
  | ok fl =>
    cases fl with
    | ret u => exact I1.after hq
    | next => exact False.elim hq
    | brk => exact False.elim hq
    | cont => exact False.elim hq⟩
end
end DL
set_option Elab.async false
set_option linter.all false
set_option maxRecDepth 100000
set_option maxHeartbeats 4000000
/-! RXh: defs called while an exception is handled. -/
namespace DL
open PySem PySem.Spec PyProof.Rows L2
theorem hot_suite {X : Cx} {cls : Value} {d : Option Addr} {a : Addr} {oe : Obj} {pn : List (Addr × Obj)} (hz : L2N.Zn cls d oe) (hf : ∃ vs, oe.data = .fields vs) : L2H.HotC (X.suite a ((a, oe) :: pn)) := by
  obtain ⟨vs, e⟩ := hf
  exact ⟨(a, oe), ⟨rfl, vs, e, hz.2.2 vs e⟩, List.mem_cons_self⟩
theorem roomH_units {k : Nat} {A : Around} (r : L2H.RoomH k A) : A.units + 64 < cLine := by have := r.un; omega
theorem roomH_suite {k : Nat} {X : Cx} {a : Addr} {pn : List (Addr × Obj)} (r : Room k X.A) : L2H.RoomH k (X.suite a pn).A := ⟨r.dp, r.un⟩
section
variable {P : Program} {w : World} {K : PySem.W.Frag} {mg : Str → Option Value} {base : Heap} {x qual : Str} {st : Stmt} {f : Addr} {fd : FuncData} {N ps : List Str} {k : Nat} {t : DS}
theorem fn_pureH {sp : PSp} (F : Fun K x qual st f fd) (S : FnScope N ps (defScope st)) (hlen : ∀ qs Qd Ed, sp qs Qd Ed → qs.length = ps.length)
    (walk : ∀ (cdv : Value) (A : Around) (outer : List Env) (s : Shared) (H : Hp) (E : XK) (p : Addr × Obj), L2H.Hot1 A p → L2H.RoomH k (A.deeper (envOfC qual (defScope st) s.heap.objs.size f cdv)) → QSs (L2H.cxH CX0 P w K mg base N qual (defScope st) f cdv A outer s H E p).nox (defBody st) t)
    (law : ∀ qs Qd Ed, sp qs Qd Ed → t { nx := fun _ _ => Qd .none, rt := fun d M => ∃ r, viewD M d = some r ∧ Qd r } (startD N (qs.map .dat)) M0) : L2H.FnH P w K mg base CX0 (k + 1) f fd ps (pureSp sp) := by
  obtain ⟨oc, od, kV, doc, pm, an, cdv, ct, osl, rfl, lk, hcd⟩ := F.ex
  refine L2H.fn_ofH lk hcd S (fun vs H Q E ⟨Z, qs, Qd, Ed, _, dq, h, _⟩ => by rw [dq.length]; exact hlen _ _ _ h) fun A outer s H vs Q E p hot hr ⟨Z, qs, Qd, Ed, hZ, dq, h, k1, k2⟩ => ⟨_, PSs.nox (walk cdv A outer s H E p hot hr), ?_⟩
  refine ⟨Z, startD N (qs.map .dat), M0, _, ⟨rep0 hZ, slots_start N dq.dvs⟩, law qs Qd Ed h, ⟨fun δ' M' σ' H' g r q => ?_, fun d M' v H' g m r ⟨z, e, q⟩ => ?_, fun _ _ _ _ _ _ q => q, fun _ _ _ _ _ _ q => q, fun _ _ _ _ _ _ _ _ _ q => q.elim⟩⟩
  · exact k1 .none .non H' (grow0 g) .non q
  · exact k1 z v H' (grow0 g) (viewD_ok m r e) q
theorem hot_cx {N : List Str} {qual : Str} {scope : Scope} {cd : Value} {A : Around} {outer : List Env} {s : Shared} {H : Hp} {E : XK} {p : Addr × Obj} (h : L2H.Hot1 A p) : L2H.HotC (L2H.cxH CX0 P w K mg base N qual scope f cd A outer s H E p).nox := ⟨p, h, List.mem_cons_self⟩
end
section
variable {X : Cx} {k : Nat} {f : Addr} {fd : FuncData} {ps : List Str} {x : Str} {p pos : Pos} {e : Expr} {es : List Expr} {ta : DA}
theorem q_callPH {sp : PSp} (F : L2H.FnH X.prog X.w X.K X.mg X.base CX0 k f fd ps (pureSp sp)) (hr : L2H.RoomH k X.A) (hc : L2H.HotC X) (hg : Gl X x) (hm : X.mg x = some (.ref f)) (hk : PySem.W.keepIn X.K (.ref f) = true) (hb : Binds X.K fd ps []) (ha : QA X (e :: es) ta)
    (hdb : (x == ("__debug__" : Str)) = false := by decide) (he : starEach (e :: es) X.env = (false, eval e X.env) :: starEach es X.env := by rfl) (hpl : (backTo pos (starEach es X.env)).any (·.1) = false := by rfl) : QE X (.Call (.Name x p) (e :: es) [] pos) (dCallP sp ta) :=
  PE_imp (L2H.pe_callH (E := fun _ => E0) F hr hc hg hm hk hb (fun _ _ _ _ _ _ _ z => z.elim) ha hdb he hpl) fun σ H Q ⟨S, δ, M, Qd, r, h, k⟩ => ⟨S, δ, M, _, r, h, fun ds M1 vs H1 g1 m1 r1 ⟨ps, e, q⟩ => by
    refine ⟨hidM M1 S, ps, _, _, hidM_ok m1, by rw [imm_hidM]; exact r1.dats e, q, fun rr v H' e' dq qq => ?_, fun _ _ _ _ _ z => z.elim⟩
    have m2 := m1.same e'
    rw [imm_hidM] at dq
    exact k (.dat rr) _ _ _ (g1.trans (Grow.same e')) m2 dq qq⟩
end
/-- a def that may be called while an exception is handled -/
structure CalH (P : Program) (w : World) (K : PySem.W.Frag) (mg : Str → Option Value) (base : Heap) (k : Nat) (x : Str) (ps : List Str) (sp : PSp) (f : Addr) (fd : FuncData) : Prop where
  ok : L2H.FnH P w K mg base CX0 k f fd ps (pureSp sp)
  mg : mg x = some (.ref f)
  kp : PySem.W.keepIn K (.ref f) = true
  b : Binds K fd ps []
end DL
set_option Elab.async false
set_option linter.all false
set_option maxRecDepth 100000
set_option maxHeartbeats 4000000
/-! RXf: _law_refused(lambda: .., word). -/
namespace DL
open PySem PySem.Spec PyProof.Rows L2
abbrev s_law_refused : Stmt := topS 52
theorem sc_law_refused : FnScope ["_law_call", "_law_word", "e"] ["_law_call", "_law_word"] (defScope s_law_refused) := ⟨rfl, rfl, rfl, by decide +kernel, rfl, by decide +kernel, by decide +kernel⟩
/-- the callee raises NotUsable(w, -1): the answer is True -/
def dRefused (P C : Addr) (q : Str) (sp : PSp) (ta : DA) (w : Str) : DE := fun δ M Q => M P = some (.cod q) ∧ (ta δ M fun ds M1 => M1 = M ∧ ∃ ps, datsOf ds = some ps ∧ sp ps (fun _ => False) (fun x => x = ⟨C, w, -1⟩)) ∧ Q (.dat (.bool true)) M
def tsRef (spS : PSp) : Addr → Addr → DS := fun a dd => dRet (dAndV (dCallP spS (aCons (dWord a dd (dVar 2)) (aCons (dVar 1) aNil))) (dCallP spS (aCons (dAt a dd (dVar 2)) (aCons (dUn negD (dC (.int 1))) aNil))))
/-- a call of a def that may raise, by data; the arguments are read alone -/
def LX (sp : PSp) (ta : DA) (E : XK) : TE := fun σ H Q => ∃ S δ M Qd Ed, Rep S δ M σ H ∧ (ta δ M fun ds M1 => M1 = M ∧ ∃ ps, datsOf ds = some ps ∧ sp ps Qd Ed) ∧
  (∀ r v H', Grow M H M H' → RepM S M H' → DV (Imm M S H') v (.dat r) → Qd r → Q v H') ∧ (∀ (x : Xn) d H', Grow M H M H' → RepM S M H' → Imm M S H' d = some (xdF x.word x.num) → Ed x → E (.ref x.cls) (some d) H')
def aRev (ta : DA) : DA := fun δ M Q => ta δ M fun ds M1 => Q ds.reverse M1
section
variable {sp : PSp} {ta : DA} {E : XK} {σ : L2.St} {H : Hp} {Q : VK}
theorem LX_pure {S : Hid} {M : Mp} {H1 : Hp} {vs : List V} {ds : List D} {ps : List PyData} {Qd : PyData → Prop} {Ed : Xn → Prop} (g1 : Grow M H M H1) (m1 : RepM S M H1) (r1 : DVs (Imm M S H1) vs ds) (e : datsOf ds = some ps) (q : sp ps Qd Ed)
    (k1 : ∀ r v H', Grow M H M H' → RepM S M H' → DV (Imm M S H') v (.dat r) → Qd r → Q v H') (k2 : ∀ (x : Xn) d H', Grow M H M H' → RepM S M H' → Imm M S H' d = some (xdF x.word x.num) → Ed x → E (.ref x.cls) (some d) H') : pureSp sp vs H1 Q E := by
  refine ⟨hidM M S, ps, _, _, hidM_ok m1, by rw [imm_hidM]; exact r1.dats e, q, fun rr v H' e' dq qq => ?_, fun x d H' e' im qq => ?_⟩
  · rw [imm_hidM] at dq
    exact k1 rr v H' (g1.trans (Grow.same e')) (m1.same e') dq qq
  · rw [imm_hidM] at im
    exact k2 x d H' (g1.trans (Grow.same e')) (m1.same e') im qq
theorem LX_call (h : LX sp ta E σ H Q) : tCall (pureSp sp) [] E (liftA ta) σ H Q := by
  obtain ⟨S, δ, M, Qd, Ed, r, h, k1, k2⟩ := h
  refine ⟨S, δ, M, _, r, h, fun ds M1 vs H1 g1 m1 r1 ⟨eM, ps, e, q⟩ => ?_⟩
  subst eM
  show pureSp sp (vs ++ []) H1 Q E
  rw [List.append_nil]
  exact LX_pure g1 m1 r1 e q k1 k2
theorem LX_kw (h : LX sp (aRev ta) E σ H Q) : tKw0 (pureSp sp) E (liftA ta) σ H Q := by
  obtain ⟨S, δ, M, Qd, Ed, r, h, k1, k2⟩ := h
  refine ⟨S, δ, M, fun ds M1 => M1 = M ∧ ∃ ps, datsOf ds.reverse = some ps ∧ sp ps Qd Ed, r, h, fun ds M1 vs H1 g1 m1 r1 ⟨eM, ps, e, q⟩ => ?_⟩
  subst eM
  exact LX_pure g1 m1 (DVs_rev r1) e q k1 k2
end
theorem q_refused {X : Cx} {c P C g fS : Addr} {fdg fdS : FuncData} {params : Arguments} {body : Expr} {scope : Scope} {lpos p cpos pos : Pos} {j : Nat} {w : Str} {sp spS : PSp} {ta : DA}
    (TB : LamX.TabB X.base X.mg c P) (hcode : X.env.code = .ref c) (Fg : Fun X.K "_law_refused" "_law_refused" s_law_refused g fdg) (mg_g : X.mg "_law_refused" = some (.ref g)) (bg : Binds X.K fdg ["_law_call", "_law_word"] [])
    (CS : CalH X.prog X.w X.K X.mg X.base 1 "_law_same" ["_law_told", "_law_due"] spS fS fdS) (hs1 : ∀ (w : Str) Qd Ed, Qd (.bool true) → spS [.str w, .str w] Qd Ed) (hs2 : ∀ Qd Ed, Qd (.bool true) → spS [.int (-1), .int (-1)] Qd Ed)
    (T : Err X.K C) (mC : X.mg "NotUsable" = some (.ref C)) (hr : Room 8 X.A) (hg : Gl X "_law_refused") (L : LamX.LamS X.env.scope scope) (hdef : defaultsOf params X.env = ([], []))
    (hbind : ∀ (q : Str) (cl : List (Str × Addr)) (pm cv ctv : Value), bindArgs (PySem.W.kla_fn "<lambda>" q params body scope cl pm cv ctv) ⟨[], []⟩ = pure [])
    (hbody : ∀ (A : Around) (outer : List Env) (s : Shared) (H : Hp) (E : XK) (f c' : Addr), Room 6 (A.deeper (LamX.lamEnv X scope s.heap.objs.size f c')) → PE (lamN X A outer s H E scope f c') body (LX sp ta E))
    (n1 : starEach [Expr.Lambda params body scope lpos, .Constant (.str w) j cpos] X.env = (false, eval (.Lambda params body scope lpos) X.env) :: starEach [.Constant (.str w) j cpos] X.env := by rfl)
    (n2 : starEach [Expr.Constant (.str w) j cpos] X.env = (false, eval (.Constant (.str w) j cpos) X.env) :: starEach [] X.env := by rfl) (hpl : (backTo pos (starEach [Expr.Constant (.str w) j cpos] X.env)).any (·.1) = false := by rfl) :
    QE X (.Call (.Name "_law_refused" p) [.Lambda params body scope lpos, .Constant (.str w) j cpos] [] pos) (dRefused P C (lamQ X) sp ta w) := ⟨fun pins s σ H Q I ⟨S, δ, M, Qd, r, ⟨eP, hta, q⟩, k⟩ => by
  obtain ⟨oc, od, kV, doc, pm0, an, cdv, ct, osl, rfl, lk, hcd⟩ := Fg.ex
  refine wpAny_Call_Name_kw (ld_glob I hg mg_g ?_ (by decide))
  refine PySem.W.callWith_K (h₀ := X.base) I.ok.mod.kin Fg.kp (args_cons (make_lam I TB hcode r.m eP hdef (L.has I.ok) fun f c' pm ctv H1 s1 I1 g1 m1 hf hfn hfr hco => args_cons (Calls.Constant_str (args_nil ⟨(I1.tok (s1.toks + 1)).kIn, ?_⟩)) n2) n1) n1 hpl
  have I2 := I1.tok (s1.toks + 1)
  have ru : RelV (.str w) (.str w s1.toks) := ⟨_, rfl⟩
  replace hf : ({ s1 with toks := s1.toks + 1 } : Shared).heap.get? f = _ := hf
  generalize Value.str w s1.toks = u at ru ⊢
  generalize hs2e : ({ s1 with toks := s1.toks + 1 } : Shared) = s2 at I2 hf ⊢
  clear hs2e
  have r1 := r.grow g1 m1
  have go : codeAny (model X.prog X.w) X.A (.call (.ref g) ⟨[.ref f, u], []⟩) (CR CX0 X.stack X.prog X.w H1 s2 Q E0) s2 := by
    refine LamX.run_ofS (N := ["_law_call", "_law_word", "e"]) (ps := ["_law_call", "_law_word"]) (us := [.ref f, u]) (vs := [.ref f, .str w]) lk hcd sc_law_refused hr I2.env0 ?_ (.cons rfl (.cons ru .nil)) rfl fun hr' => ?_
    · have := bg s2 [.ref f, u] I2.kIn rfl
      rw [List.append_nil] at this
      exact this
    refine ⟨tSeq (fun D σ' H' => (fun W D σZ HZ => σZ[0]? = some (some (V.ref f)) ∧ HZ c' = some (LamX.CodeO c' (lamQ X)) ∧ LX sp ta (WE W σZ) σ HZ fun _ H3 => D.nx σZ H3) (wAs X.K (.ref C) 2 (liftTry WF C (tsRef spS)) WF D) D σ' H') (liftS WF (dRet (dC (.bool false)))), PSs.nox (pss_cons ?_ (PSs_imp (show QSs _ _ (dRet (dC (.bool false))) from qss_one (qs_ret q_bl)) fun E σ H q => liftS_W (fun _ _ _ _ z => z.elim) q)), ?_⟩
    · refine L2N.ps_try_as (i := 2) (c := .ref C) (tb := fun W D σZ HZ => σZ[0]? = some (some (V.ref f)) ∧ HZ c' = some (LamX.CodeO c' (lamQ X)) ∧ LX sp ta (WE W σZ) σ HZ fun _ H3 => D.nx σZ H3) (ts := liftTry WF C (tsRef spS)) (Wout := WF) rfl rfl sc_law_refused.nd rfl rfl ⟨rfl, by decide, .inl mC⟩ takesN0 (fun W pn xe tk po => ?_) (fun a oe cls d pn hz hv => ?_)
      · exact pss_one (PS_imp (ps_expr (call_lam (tb := fun E => LX sp ta E) I2 L hf hfn hfr (hbind _ _ _ _ _) tk hr' (fun A outer s H E hr2 => hbody A outer s H E f c' hr2) rfl (.inl rfl)) rfl) fun D σZ HZ z => z)
      · refine ⟨fun pins s σ H E I ⟨dd, ed, ec, q⟩ => ?_⟩
        subst ed
        have hot := hot_suite (X := (cxOf CX0 X.prog X.w X.K X.mg X.base ["_law_call", "_law_word", "e"] "_law_refused" (defScope s_law_refused) g cdv X.A X.stack s2 H1 E0).nox) (pn := pn) (a := a) hz hv
        have room : L2H.RoomH 1 ((cxOf CX0 X.prog X.w X.K X.mg X.base ["_law_call", "_law_word", "e"] "_law_refused" (defScope s_law_refused) g cdv X.A X.stack s2 H1 E0).nox.suite a ((a, oe) :: pn)).A := roomH_suite (hr'.mono (j := 1) (by decide))
        refine (show QSs ((cxOf CX0 X.prog X.w X.K X.mg X.base ["_law_call", "_law_word", "e"] "_law_refused" (defScope s_law_refused) g cdv X.A X.stack s2 H1 E0).nox.suite a ((a, oe) :: pn)) _ (tsRef spS a dd) from qss_one (qs_ret (q_and (q_callPH CS.ok room hot (by rfl) CS.mg CS.kp CS.b (qa_cons (q_word T hz.zc hv ec (q_var 2)) (qa_cons (q_var 1) qa_nil)))
          (q_one (q_callPH CS.ok room hot (by rfl) CS.mg CS.kp CS.b (qa_cons (q_at T hz.zc hv ec (q_var 2)) (qa_cons (q_neg q_int) qa_nil))))))).run pins s σ H E I (liftS_W (fun _ _ _ _ z => z.elim) q)
    · refine ⟨rfl, hco, S, δ, M, _, _, r1, hta, fun rr v H' g m dv z => z.elim, fun x d H' g m im ex => ?_⟩
      subst ex
      refine ⟨true, T.te, fun _ a ha => ⟨d, rfl, rfl, hidM M S, [some (.ref f), some (.dat (.str w)), some (.exn a d w (-1))], M0, { nx := fun _ _ => False, rt := fun dd _ => dd = .dat (.bool true) }, ⟨rep0 (hidM_ok m), ?_⟩, ?_, ⟨fun _ _ _ _ _ _ z => z.elim, fun d2 M2 v H2 g2 m2 r2 z => ?_, fun _ _ _ _ _ _ z => z.elim, fun _ _ _ _ _ _ z => z.elim, fun _ _ _ _ _ _ _ _ _ z => z.elim⟩⟩, fun z => by cases z⟩
      · refine ⟨rfl, fun i dd e => ?_⟩
        match i, e with
        | 0, e => cases e; exact ⟨_, rfl, rfl⟩
        | 1, e => cases e; exact ⟨_, rfl, .str w⟩
        | 2, e => cases e; exact ⟨_, rfl, rfl, by rw [imm_hidM]; exact im⟩
        | i + 3, e => simp at e
      · exact ⟨rfl, rfl, _, rfl, hs1 w _ _ ⟨rfl, rfl, _, rfl, hs2 _ _ rfl⟩⟩
      · subst z
        cases dv_bl r2
        have same := grow0 g2
        exact k (.dat (.bool true)) M _ H2 ((g1.trans g).trans (Grow.same same)) (m.same same) dvB q
  refine wpAny_call (codeAny_mono go fun r2 s3 hq => ?_)
  cases r2 with
  | error e => exact (show False from hq).elim
  | ok fl =>
    cases fl with
    | ret u => exact I2.after hq
    | next => exact False.elim hq
    | brk => exact False.elim hq
    | cont => exact False.elim hq⟩
end DL
set_option Elab.async false
set_option linter.all false
set_option maxRecDepth 100000
set_option maxHeartbeats 4000000
/-! RXi: a def whose code object is known; an expression that is never reached. -/
namespace DL
open PySem PySem.Spec PyProof.Rows L2
def dNeverE : DE := fun _ _ _ => False
theorem q_neverE {X : Cx} {e : Expr} : QE X e dNeverE := ⟨fun pins s σ H Q I ⟨S, δ, M, Qd, r, h, k⟩ => h.elim⟩
theorem fn_memC {P : Program} {w : World} {K : PySem.W.Frag} {mg : Str → Option Value} {base : Heap} {x qual : Str} {st : Stmt} {f : Addr} {fd : FuncData} {N ps : List Str} {k : Nat} {t : DS} {sp : MSp} (F : Fun K x qual st f fd) (S : FnScope N ps (defScope st)) (hlen : ∀ ds M Qd, sp ds M Qd → ds.length = ps.length)
    (walk : ∀ (cdv : Value) (A : Around) (outer : List Env) (s : Shared) (H : Hp) (E : XK), fd.code = cdv → Room k (A.deeper (envOfC qual (defScope st) s.heap.objs.size f cdv)) → QSs (cxOf CX0 P w K mg base N qual (defScope st) f cdv A outer s H E).nox (defBody st) t)
    (law : ∀ ds M Qd, sp ds M Qd → t { nx := fun _ M' => Qd (.dat .none) M', rt := Qd } (startD N ds) M) : FnOk P w K mg base CX0 (k + 1) f fd ps (memSp sp) := by
  obtain ⟨oc, od, kV, doc, pm, an, cdv, ct, osl, rfl, lk, hcd⟩ := F.ex
  refine fn_of lk hcd S (fun vs H Q E ⟨S, M, ds, Qd, m, rd, h, _⟩ => by rw [DVs_len rd]; exact hlen _ _ _ h) fun A outer s H vs Q E hr ⟨S, M, ds, Qd, m, rd, h, k1⟩ => ⟨_, PSs.nox (walk cdv A outer s H E rfl hr), ?_⟩
  exact ⟨S, startD N ds, M, _, ⟨m, slots_start N rd⟩, law ds M Qd h, ⟨fun δ' M' σ' H' g r q => k1 _ M' _ H' g r.m dvN q, k1, fun _ _ _ _ _ _ q => q, fun _ _ _ _ _ _ q => q, fun _ _ _ _ _ _ _ _ _ q => q.elim⟩⟩
end DL
set_option Elab.async false
set_option linter.all false
set_option maxRecDepth 100000
set_option maxHeartbeats 4000000
/-! PL1: words for the plain laws: comprehensions, loops, data. -/
namespace DL
open PySem PySem.Spec PyProof.Rows L2

theorem if_t {b : Bool} {A B : Prop} (h : b = true) (k : A) : if b = true then A else B := by rw [if_pos h]; exact k
theorem if_f {b : Bool} {A B : Prop} (h : b = false) (k : B) : if b = true then A else B := by rw [h]; exact k
theorem if_b {b : Bool} {A B : Prop} (k1 : b = true → A) (k2 : b = false → B) : if b = true then A else B := by
  cases b
  · exact k2 rfl
  · exact k1 rfl
/-- a comprehension whose element changes nothing -/
theorem lc_pure {α : Type} {g : DG} {te : DE} {δw : Sd} {stay : Mp → Prop} {M : Mp} {Q : List D → Mp → Prop} (l : List α) (enc f : α → D) {items : List D} (e : items = l.map enc) (hs : stay M) (ht : ∀ a ∈ l, ∀ K : DK, K (f a) M → g (enc a) δw M fun δ2 M2 => dYes δ2 M2 fun b M3 => if b = true then te δ2 M3 K else False) (q : Q (l.map f) M)
    (hg : ∀ a ∈ l, ∀ K1 K2 : Sd → Mp → Prop, (∀ δ M, K1 δ M → K2 δ M) → g (enc a) δw M K1 → g (enc a) δw M K2) : goLc g dYes te stay δw items M Q := by
  subst e
  induction l generalizing Q with
  | nil => exact ⟨hs, q⟩
  | cons a l ih =>
    refine ⟨hs, ?_⟩
    have h := ht a List.mem_cons_self (fun y M4 => goLc g dYes te stay δw (l.map enc) M4 fun acc M5 => Q (y :: acc) M5) (ih (Q := fun acc M5 => Q (f a :: acc) M5) (fun b hb => ht b (List.mem_cons_of_mem _ hb)) q fun b hb => hg b (List.mem_cons_of_mem _ hb))
    refine hg a List.mem_cons_self _ _ ?_ h
    intro δ2 M2 h2
    exact h2
/-- .. with one name -/
theorem lc_map {α : Type} {te : DE} {i : Nat} {δw : Sd} {stay : Mp → Prop} {M : Mp} {Q : List D → Mp → Prop} (l : List α) (enc f : α → D) {items : List D} (e : items = l.map enc) (hs : stay M) (ht : ∀ a ∈ l, ∀ K : DK, K (f a) M → te (δw.set i (some (enc a))) M K) (q : Q (l.map f) M) : goLc (dName i) dYes te stay δw items M Q :=
  lc_pure l enc f e hs (fun a ha K k => ht a ha K k) q fun _ _ _ _ h k => h _ _ k
/-- .. with a test -/
theorem lc_filt {α : Type} {tt : DT} {te : DE} {i : Nat} {δw : Sd} {stay : Mp → Prop} {M : Mp} (enc f : α → D) (p : α → Bool) : ∀ (l : List α) {Q : List D → Mp → Prop} {items : List D} (e : items = l.map enc) (hs : stay M)
    (ht : ∀ a ∈ l, ∀ K : Bool → Mp → Prop, K (p a) M → tt (δw.set i (some (enc a))) M K) (he : ∀ a ∈ l, p a = true → ∀ K : DK, K (f a) M → te (δw.set i (some (enc a))) M K) (q : Q ((l.filter p).map f) M), goLc (dName i) tt te stay δw items M Q
  | [], Q, _, e, hs, _, _, q => by subst e; exact ⟨hs, q⟩
  | a :: l, Q, _, e, hs, ht, he, q => by
    subst e
    refine ⟨hs, ht a List.mem_cons_self _ ?_⟩
    cases h : p a with
    | true =>
      refine if_t rfl (he a List.mem_cons_self h _ (lc_filt enc f p l (Q := fun acc M5 => Q (f a :: acc) M5) rfl hs (fun b hb => ht b (List.mem_cons_of_mem _ hb)) (fun b hb => he b (List.mem_cons_of_mem _ hb)) ?_))
      rw [List.filter_cons_of_pos h] at q
      exact q
    | false =>
      refine if_f rfl (lc_filt enc f p l rfl hs (fun b hb => ht b (List.mem_cons_of_mem _ hb)) (fun b hb => he b (List.mem_cons_of_mem _ hb)) ?_)
      rw [List.filter_cons_of_neg (by rw [h]; exact Bool.false_ne_true)] at q
      exact q
/-- the new list, by data -/
theorem finL_map {α : Type} (f : α → PyData) (l : List α) {M : Mp} {Q : DK} (q : Q (.dat (.list (l.map f))) M) : finL (l.map fun a => D.dat (f a)) M Q := by
  unfold finL
  have e : datsOf (l.map fun a => D.dat (f a)) = some (l.map f) := by rw [← datsOf_map, List.map_map]; rfl
  rw [e]
  exact q
theorem map_dat {α : Type} (f : α → PyData) (l : List α) : (l.map f).map D.dat = l.map fun a => D.dat (f a) := by rw [List.map_map]; rfl
/-- a list's comprehension of data -/
theorem lc_dat {α : Type} {te : DE} {i : Nat} {δw : Sd} {stay : Mp → Prop} {M : Mp} {Q : DK} (l : List α) (enc f : α → PyData) (hs : stay M) (ht : ∀ a ∈ l, ∀ K : DK, K (.dat (f a)) M → te (δw.set i (some (.dat (enc a)))) M K) (q : Q (.dat (.list (l.map f))) M) :
    goLc (dName i) dYes te stay δw ((l.map enc).map D.dat) M fun acc M2 => finL acc M2 Q :=
  lc_map l (fun a => .dat (enc a)) (fun a => .dat (f a)) (map_dat enc l) hs ht (finL_map f l q)
theorem upTo_eq (n : Nat) : upTo (n : Int) = (List.range n).map fun i => D.dat (.int ((i : Nat) : Int)) := by unfold upTo; rw [Int.toNat_natCast]
/-- a loop, by what holds ahead of each turn -/
theorem goFor_ind {α : Type} {g : DG} {tb : DS} {E : DEnds} {stay : Mp → Prop} (enc : α → D) (I : List α → Sd → Mp → Prop) (h0 : ∀ δ M, I [] δ M → stay M ∧ E.nx δ M)
    (hs : ∀ a l δ M (K : Sd → Mp → Prop), I (a :: l) δ M → (∀ δ M, I l δ M → K δ M) → stay M ∧ g (enc a) δ M fun δ2 M2 => tb { nx := K, rt := E.rt, ct := K, bk := E.nx, xn := E.xn } δ2 M2) :
    ∀ (l : List α) {items : List D} {δ : Sd} {M : Mp}, items = l.map enc → I l δ M → goFor g tb E stay items δ M
  | [], _, _, _, e, h => by subst e; exact h0 _ _ h
  | a :: l, _, _, _, e, h => by subst e; exact hs a l _ _ _ h fun δ' M' h' => goFor_ind enc I h0 hs l rfl h'
/-- .. where the state is a value of its own -/
theorem goFor_st {α β : Type} {g : DG} {tb : DS} {E : DEnds} {stay : Mp → Prop} (enc : α → D) (sl : β → Sd) (mm : β → Mp) (I : List α → β → Prop) (h0 : ∀ b, I [] b → stay (mm b) ∧ E.nx (sl b) (mm b))
    (hs : ∀ a l b (K : Sd → Mp → Prop), I (a :: l) b → (∀ b', I l b' → K (sl b') (mm b')) → stay (mm b) ∧ g (enc a) (sl b) (mm b) fun δ2 M2 => tb { nx := K, rt := E.rt, ct := K, bk := E.nx, xn := E.xn } δ2 M2)
    (l : List α) {items : List D} {δ : Sd} {M : Mp} (b : β) (e : items = l.map enc) (hI : I l b) (e1 : δ = sl b) (e2 : M = mm b) : goFor g tb E stay items δ M := by
  subst e1 e2
  refine goFor_ind enc (fun l δ M => ∃ b, I l b ∧ δ = sl b ∧ M = mm b) ?_ ?_ l e ⟨b, hI, rfl, rfl⟩
  · rintro _ _ ⟨b, h, rfl, rfl⟩
    exact h0 b h
  · rintro a l _ _ K ⟨b, h, rfl, rfl⟩ k
    exact hs a l b K h fun b' h' => k _ _ ⟨b', h', rfl, rfl⟩
/-- what stands in a pair -/
theorem atI_nat {α : Type} {l : List α} {i : Nat} {x : α} (h : l[i]? = some x) : atI l (i : Int) = some x := by
  have li := (List.getElem?_eq_some_iff.mp h).1
  have e : ixN l.length ((i : Nat) : Int) = some i := by
    unfold ixN
    rw [if_pos (by omega), if_pos (by omega)]
    rfl
  unfold atI
  rw [e]
  exact h
theorem atI_map {α : Type} {l : List α} {f : α → PyData} {i : Nat} {x : α} (h : l[i]? = some x) : atI ((l.map f).map D.dat) (i : Int) = some (.dat (f x)) := by
  refine atI_nat ?_
  rw [List.getElem?_map, List.getElem?_map, h]
  rfl
theorem atI_mapD {α : Type} {l : List α} {f : α → D} {i : Nat} {x : α} (h : l[i]? = some x) : atI (l.map f) (i : Int) = some (f x) := by
  refine atI_nat ?_
  rw [List.getElem?_map, h]
  rfl
theorem ixN_nat {n i : Nat} (h : i < n) : ixN n (i : Int) = some i := by
  unfold ixN
  rw [if_pos (by omega), if_pos (by omega)]
  rfl
def addPs (p : Int × Int) (ps : List (Int × Int)) : Int × Int := (p.1 + (ps.map (·.1)).sum, p.2 + (ps.map (·.2)).sum)
theorem sum_int {α : Type} (f : α → Int) (l : List α) : l.map (fun a => PyData.int (f a)) = (l.map f).map .int := by rw [List.map_map]; rfl
theorem ok16 {n : Nat} (h : Nat.ble n 16777216 = true) : n ≤ 16777216 := Nat.le_of_ble_eq_true h
mutual
/-- data of a size that the walks can bear, no dict within -/
def fit : PyData → Bool
  | .none => true
  | .bool _ => true
  | .int _ => true
  | .str x => decide (x.length ≤ 1000)
  | .list ps => fits ps && decide (ps.length ≤ 1000)
  | .tuple ps => fits ps && decide (ps.length ≤ 1000)
  | .dict _ => false
def fits : List PyData → Bool
  | [] => true
  | p :: ps => fit p && fits ps
end
theorem fits_mem : ∀ {ps : List PyData} {p : PyData}, fits ps = true → p ∈ ps → fit p = true
  | q :: ps, p, h, hp => by
    have h' := Bool.and_eq_true_iff.mp (show (fit q && fits ps) = true from h)
    rcases List.mem_cons.mp hp with rfl | hp
    · exact h'.1
    · exact fits_mem h'.2 hp
theorem fit_tup {ps : List PyData} (h : fit (.tuple ps) = true) : fits ps = true ∧ ps.length ≤ 1000 := by
  have h' := Bool.and_eq_true_iff.mp (show (fits ps && decide (ps.length ≤ 1000)) = true from h)
  exact ⟨h'.1, of_decide_eq_true h'.2⟩
theorem fit_lst {ps : List PyData} (h : fit (.list ps) = true) : fits ps = true ∧ ps.length ≤ 1000 := by
  have h' := Bool.and_eq_true_iff.mp (show (fits ps && decide (ps.length ≤ 1000)) = true from h)
  exact ⟨h'.1, of_decide_eq_true h'.2⟩
theorem fit_str {x : Str} (h : fit (.str x) = true) : x.length ≤ 1000 := of_decide_eq_true h
def nmT : PyData → String
  | .none => "NoneType"
  | .bool _ => "bool"
  | .int _ => "int"
  | .str _ => "str"
  | .list _ => "list"
  | .tuple _ => "tuple"
  | .dict _ => "dict"
theorem ty_fit {M : Mp} : ∀ {p : PyData}, fit p = true → tyName M (.dat p) = some (nmT p)
  | .none, _ => rfl
  | .bool _, _ => rfl
  | .int _, _ => rfl
  | .str _, _ => rfl
  | .list _, _ => rfl
  | .tuple _, _ => rfl
  | .dict _, h => by cases h
def isTup : PyData → Bool
  | .tuple _ => true
  | _ => false
def isStr : PyData → Bool
  | .str _ => true
  | _ => false
def isInt : PyData → Bool
  | .int _ => true
  | _ => false
def isBl : PyData → Bool
  | .bool _ => true
  | _ => false
theorem is_tup : ∀ {p : PyData}, isiB (nmT p) "tuple" = isTup p
  | .none => by simp [isiB, nmT, isTup, isStr, isInt, isBl]
  | .bool _ => by simp [isiB, nmT, isTup, isStr, isInt, isBl]
  | .int _ => by simp [isiB, nmT, isTup, isStr, isInt, isBl]
  | .str _ => by simp [isiB, nmT, isTup, isStr, isInt, isBl]
  | .list _ => by simp [isiB, nmT, isTup, isStr, isInt, isBl]
  | .tuple _ => by simp [isiB, nmT, isTup, isStr, isInt, isBl]
  | .dict _ => by simp [isiB, nmT, isTup, isStr, isInt, isBl]
theorem is_str : ∀ {p : PyData}, isiB (nmT p) "str" = isStr p
  | .none => by simp [isiB, nmT, isTup, isStr, isInt, isBl]
  | .bool _ => by simp [isiB, nmT, isTup, isStr, isInt, isBl]
  | .int _ => by simp [isiB, nmT, isTup, isStr, isInt, isBl]
  | .str _ => by simp [isiB, nmT, isTup, isStr, isInt, isBl]
  | .list _ => by simp [isiB, nmT, isTup, isStr, isInt, isBl]
  | .tuple _ => by simp [isiB, nmT, isTup, isStr, isInt, isBl]
  | .dict _ => by simp [isiB, nmT, isTup, isStr, isInt, isBl]
theorem is_int : ∀ {p : PyData}, isiB (nmT p) "int" = (isInt p || isBl p)
  | .none => by simp [isiB, nmT, isTup, isStr, isInt, isBl]
  | .bool _ => by simp [isiB, nmT, isTup, isStr, isInt, isBl]
  | .int _ => by simp [isiB, nmT, isTup, isStr, isInt, isBl]
  | .str _ => by simp [isiB, nmT, isTup, isStr, isInt, isBl]
  | .list _ => by simp [isiB, nmT, isTup, isStr, isInt, isBl]
  | .tuple _ => by simp [isiB, nmT, isTup, isStr, isInt, isBl]
  | .dict _ => by simp [isiB, nmT, isTup, isStr, isInt, isBl]
theorem is_bl : ∀ {p : PyData}, isiB (nmT p) "bool" = isBl p
  | .none => by simp [isiB, nmT, isTup, isStr, isInt, isBl]
  | .bool _ => by simp [isiB, nmT, isTup, isStr, isInt, isBl]
  | .int _ => by simp [isiB, nmT, isTup, isStr, isInt, isBl]
  | .str _ => by simp [isiB, nmT, isTup, isStr, isInt, isBl]
  | .list _ => by simp [isiB, nmT, isTup, isStr, isInt, isBl]
  | .tuple _ => by simp [isiB, nmT, isTup, isStr, isInt, isBl]
  | .dict _ => by simp [isiB, nmT, isTup, isStr, isInt, isBl]
theorem len2 {α : Type} {f : α → D} {ps : List α} (h : (!decide ((((ps.map f).length : Nat) : Int) = 2)) = false) : ∃ x y, ps = [x, y] := by
  match ps, h with
  | [x, y], _ => exact ⟨x, y, rfl⟩
  | [], h => simp at h
  | [_], h => simp at h
  | _ :: _ :: _ :: r, h => simp at h; omega
theorem len2n {α : Type} {f : α → D} {ps : List α} (h : (!decide ((((ps.map f).length : Nat) : Int) = 2)) = true) : ps.length ≠ 2 := by
  intro e
  simp [e] at h
end DL
set_option Elab.async false
set_option linter.all false
set_option maxRecDepth 100000
set_option maxHeartbeats 4000000
namespace DL
open PySem PySem.Spec PyProof.Rows L2
/-! PL2: the judging of data: words, symbols, trees, sheets. -/
def sp_a_begins : PSp := fun qs Qd _ => ∃ c, qs = [.str ⟨#[c]⟩] ∧ Qd (.bool (decide (c ∈ aLetters.cps.toList)))
def sp_a_goes_on : PSp := fun qs Qd _ => ∃ c, qs = [.str ⟨#[c]⟩] ∧ Qd (.bool (decide (c ∈ aLetters.cps.toList) || decide (c ∈ aOthers.cps.toList)))
/-- a word -/
def wordB (x : Str) : Bool := decide (x = ".") || (decide (1 ≤ x.length) && decide (x.length ≤ 16) && (x.cps.toList.head?.any fun c => decide (c ∈ aLetters.cps.toList)) && x.cps.toList.all fun c => decide (c ∈ aLetters.cps.toList) || decide (c ∈ aOthers.cps.toList))
def isWordP : PyData → Bool
  | .str x => wordB x
  | _ => false
def sp_is_word : PSp := fun qs Qd _ => ∃ p, qs = [p] ∧ fit p = true ∧ Qd (.bool (isWordP p))
def isCountP : PyData → Bool
  | .int i => decide (0 ≤ i) && decide (i ≤ 4)
  | _ => false
def sp_a_is_count : PSp := fun qs Qd _ => ∃ p, qs = [p] ∧ fit p = true ∧ Qd (.bool (isCountP p))
def sym2 : PyData → PyData → Bool
  | .str x, .int i => wordB x && ((decide (0 ≤ i) && decide (i ≤ 4)) && (decide (i = 0) || !decide (x = ".")))
  | _, _ => false
def isSymP : PyData → Bool
  | .tuple [x, y] => sym2 x y
  | _ => false
theorem sym_len : ∀ {ps : List PyData}, ps.length ≠ 2 → isSymP (.tuple ps) = false
  | [], _ => rfl
  | [_], _ => rfl
  | [_, _], h => absurd rfl h
  | _ :: _ :: _ :: _, _ => rfl
theorem sym2_nw : ∀ {x y : PyData}, isWordP x = false → sym2 x y = false
  | .str w, .int i, h => by
    have h' : wordB w = false := h
    show (wordB w && _) = false
    rw [h']; rfl
  | .str w, .none, h => rfl
  | .str w, .bool _, h => rfl
  | .str w, .str _, h => rfl
  | .str w, .list _, h => rfl
  | .str w, .tuple _, h => rfl
  | .str w, .dict _, h => rfl
  | .none, _, _ => rfl
  | .bool _, _, _ => rfl
  | .int _, _, _ => rfl
  | .list _, _, _ => rfl
  | .tuple _, _, _ => rfl
  | .dict _, _, _ => rfl
def sp_is_symbol : PSp := fun qs Qd _ => ∃ p, qs = [p] ∧ fit p = true ∧ Qd (.bool (isSymP p))
def many2 : PyData → Int
  | .int i => i
  | _ => 0
def manyP : PyData → Int
  | .tuple [_, y] => many2 y
  | _ => 0
def rowP : Int → List PyData → Bool
  | n, [] => decide (n = 0)
  | n, p :: ps => !decide (n = 0) && (isSymP p && rowP (n + manyP p - 1) ps)
def isTreeP : PyData → Bool
  | .tuple ps => rowP 1 ps
  | _ => false
def sp_a_is_row : PSp := fun qs Qd _ => ∃ p, qs = [p, .bool false] ∧ fit p = true ∧ Qd (.bool (isTreeP p))
def sp_is_tree : PSp := fun qs Qd _ => ∃ p, qs = [p] ∧ fit p = true ∧ Qd (.bool (isTreeP p))
theorem len_a_begins {a b c} (h : sp_a_begins a b c) : a.length = 1 := by
  obtain ⟨c, rfl, _⟩ := h; rfl
def t_a_begins : DS :=
  dRet (dOp inStrD (dVar 0) (dC (.str aLetters)))
theorem law_a_begins {a b c} (h : sp_a_begins a b c) : t_a_begins { nx := fun _ _ => b .none, rt := fun d M => ∃ r, viewD M d = some r ∧ b r } (startD ["sign"] (a.map .dat)) M0 := by
  obtain ⟨c, rfl, q⟩ := h
  exact ⟨c, rfl, _, rfl, q⟩
theorem len_a_goes_on {a b c} (h : sp_a_goes_on a b c) : a.length = 1 := by
  obtain ⟨c, rfl, _⟩ := h; rfl
def t_a_goes_on : DS :=
  dRet (dOrV (dOp inStrD (dVar 0) (dC (.str aLetters))) (dOp inStrD (dVar 0) (dC (.str aOthers))))
theorem law_a_goes_on {a b c} (h : sp_a_goes_on a b c) : t_a_goes_on { nx := fun _ _ => b .none, rt := fun d M => ∃ r, viewD M d = some r ∧ b r } (startD ["sign"] (a.map .dat)) M0 := by
  obtain ⟨c, rfl, q⟩ := h
  refine ⟨c, rfl, if_b (fun e => ?_) fun e => ?_⟩
  · rw [e] at q; exact ⟨_, rfl, q⟩
  · rw [e] at q; exact ⟨c, rfl, _, rfl, q⟩
theorem len_is_word {a b c} (h : sp_is_word a b c) : a.length = 1 := by
  obtain ⟨c, rfl, _⟩ := h; rfl
def t_is_word : DS :=
  dSeq (dIfS (dNot (dB (dIsi "str" (dVar 0)))) (dRet (dC (.bool false))) (dNext)) (dSeq (dIfS (dB (dOp eqD (dVar 0) (dC (.str (Str.ofString "."))))) (dRet (dC (.bool true))) (dNext)) (dSeq (dIfS (dOr (dNot (dB (dChain leD leD (dC (.int 1)) (dCB lenC (aCons (dVar 0) (aNil))) (dC (.int 16))))) (dNot (dB (dCallP sp_a_begins (aCons (dOp ixS (dVar 0) (dC (.int 0))) (aNil)))))) (dRet (dC (.bool false))) (dNext)) (dRet (dCB allC (aCons (dLc (iStrD (dVar 0)) (dName 1) (dYes) (dCallP sp_a_goes_on (aCons (dVar 1) (aNil))) [1] finL) (aNil))))))
theorem law_is_word {a b c} (h : sp_is_word a b c) : t_is_word { nx := fun _ _ => b .none, rt := fun d M => ∃ r, viewD M d = some r ∧ b r } (startD ["thing", "sign"] (a.map .dat)) M0 := by
  obtain ⟨p, rfl, f, q⟩ := h
  refine ⟨_, ty_fit f, ?_⟩
  rw [is_str]
  cases p with
  | str x =>
    have hx := fit_str f
    have q' : b (.bool (wordB x)) := q
    unfold wordB at q'
    refine if_b (fun e => ?_) fun e => ?_
    · rw [e] at q'
      exact ⟨_, rfl, q'⟩
    rw [e, Bool.false_or] at q'
    refine ⟨by omega, if_b (fun e1 => ?_) fun e1 => ?_⟩
    · have h1 : 1 ≤ x.length := by have := of_decide_eq_true e1; omega
      have h2 : x.length = x.cps.toList.length := by rw [Array.length_toList]; rfl
      rw [show decide (1 ≤ x.length) = true from decide_eq_true h1, Bool.true_and] at q'
      refine if_b (fun e2 => ?_) fun e2 => ?_
      · have h3 : ¬ x.length ≤ 16 := by simp at e2; omega
        rw [decide_eq_false h3] at q'
        exact ⟨_, rfl, q'⟩
      · have h3 : x.length ≤ 16 := by simp at e2; omega
        rw [decide_eq_true h3, Bool.true_and] at q'
        cases hc : x.cps.toList with
        | nil => rw [h2, hc] at h1; cases h1
        | cons c0 cs =>
          rw [hc] at q'
          refine ⟨c0, by omega, by rw [hc]; exact atI_nat (i := 0) rfl, _, rfl, c0, rfl, ?_⟩
          have q1 : b (.bool (decide (c0 ∈ aLetters.cps.toList) && (c0 :: cs).all fun c => decide (c ∈ aLetters.cps.toList) || decide (c ∈ aOthers.cps.toList))) := q'
          cases e3 : decide (c0 ∈ aLetters.cps.toList) with
          | false =>
            rw [e3] at q1
            exact ⟨_, rfl, q1⟩
          | true =>
            rw [e3, Bool.true_and] at q1
            refine ⟨by
              have hl : (signs x).length ≤ 1000 := by
                unfold signs; rw [List.length_map]; omega
              omega, ?_⟩
            unfold signs
            rw [hc]
            refine lc_map (c0 :: cs) _ (fun c => D.dat (.bool (decide (c ∈ aLetters.cps.toList) || decide (c ∈ aOthers.cps.toList)))) rfl trivial (fun c _ K k => ⟨_, rfl, c, rfl, k⟩) (finL_map (fun c => PyData.bool _) _ ?_)
            refine ⟨(c0 :: cs).map fun c => decide (c ∈ aLetters.cps.toList) || decide (c ∈ aOthers.cps.toList), by rw [List.map_map]; rfl, _, rfl, ?_⟩
            rw [List.all_map]
            exact q1
    · rw [show decide (1 ≤ x.length) = false from decide_eq_false (by have := of_decide_eq_false e1; omega)] at q'
      exact ⟨_, rfl, q'⟩
  | _ => exact ⟨_, rfl, q⟩
theorem len_a_is_count {a b c} (h : sp_a_is_count a b c) : a.length = 1 := by
  obtain ⟨c, rfl, _⟩ := h; rfl
def t_a_is_count : DS :=
  dRet (dAndV (dIsi "int" (dVar 0)) (dAndV (dNotV (dIsi "bool" (dVar 0))) (dChain leD leD (dC (.int 0)) (dVar 0) (dC (.int 4)))))
theorem law_a_is_count {a b c} (h : sp_a_is_count a b c) : t_a_is_count { nx := fun _ _ => b .none, rt := fun d M => ∃ r, viewD M d = some r ∧ b r } (startD ["thing"] (a.map .dat)) M0 := by
  obtain ⟨p, rfl, f, q⟩ := h
  refine ⟨_, ty_fit f, ?_⟩
  rw [is_int]
  cases p with
  | int i =>
    have q' : b (.bool (decide (0 ≤ i) && decide (i ≤ 4))) := q
    refine ⟨_, rfl, if_b (fun e => ?_) fun e => ?_⟩
    · rw [e] at q'; exact ⟨_, rfl, q'⟩
    · rw [e] at q'; exact ⟨_, rfl, q'⟩
  | bool c => exact ⟨_, rfl, ⟨_, rfl, q⟩⟩
  | _ => exact ⟨_, rfl, q⟩
theorem len_is_symbol {a b c} (h : sp_is_symbol a b c) : a.length = 1 := by
  obtain ⟨c, rfl, _⟩ := h; rfl
def t_is_symbol : DS :=
  dSeq (dIfS (dOr (dNot (dB (dIsi "tuple" (dVar 0)))) (dB (dOp neD (dCB lenC (aCons (dVar 0) (aNil))) (dC (.int 2))))) (dRet (dC (.bool false))) (dNext)) (dSeq (dAsg (dVar 0) (dTupG 2 (gsCons (dName 1) (gsCons (dName 2) (gsNil))))) (dRet (dAndV (dCallP sp_is_word (aCons (dVar 1) (aNil))) (dAndV (dCallP sp_a_is_count (aCons (dVar 2) (aNil))) (dOrV (dOp eqD (dVar 2) (dC (.int 0))) (dOp neD (dVar 1) (dC (.str (Str.ofString ".")))))))))
theorem law_is_symbol {a b c} (h : sp_is_symbol a b c) : t_is_symbol { nx := fun _ _ => b .none, rt := fun d M => ∃ r, viewD M d = some r ∧ b r } (startD ["thing", "word", "many"] (a.map .dat)) M0 := by
  obtain ⟨p, rfl, f, q⟩ := h
  refine ⟨_, ty_fit f, ?_⟩
  rw [is_tup]
  cases p with
  | tuple ps =>
    obtain ⟨hf, hl⟩ := fit_tup f
    refine ⟨_, rfl, if_b (fun e => ?_) fun e => ?_⟩
    · rw [sym_len (len2n e)] at q
      exact ⟨_, rfl, q⟩
    obtain ⟨x, y, rfl⟩ := len2 e
    refine ⟨rfl, rfl, _, rfl, x, rfl, fits_mem hf (by simp), ?_⟩
    have q' : b (.bool (sym2 x y)) := q
    cases ew : isWordP x with
    | false =>
      rw [sym2_nw ew] at q'
      exact ⟨_, rfl, q'⟩
    | true =>
      refine ⟨_, rfl, y, rfl, fits_mem hf (by simp), ?_⟩
      cases x with
      | str w =>
        cases y with
        | int i =>
          have q2 : b (.bool (wordB w && ((decide (0 ≤ i) && decide (i ≤ 4)) && (decide (i = 0) || !decide (w = "."))))) := q'
          rw [show wordB w = true from ew, Bool.true_and] at q2
          refine if_b (fun e1 => ?_) fun e1 => ?_
          · rw [show (decide (0 ≤ i) && decide (i ≤ 4)) = true from e1, Bool.true_and] at q2
            refine if_b (fun e2 => ?_) fun e2 => ?_
            · rw [e2] at q2; exact ⟨_, rfl, q2⟩
            · rw [e2] at q2; exact ⟨_, rfl, q2⟩
          · rw [show (decide (0 ≤ i) && decide (i ≤ 4)) = false from e1] at q2
            exact ⟨_, rfl, q2⟩
        | _ => exact ⟨_, rfl, q'⟩
      | _ => cases ew
  | _ => exact ⟨_, rfl, q⟩
theorem len_a_is_row {a b c} (h : sp_a_is_row a b c) : a.length = 2 := by
  obtain ⟨c, rfl, _⟩ := h; rfl
def t_a_is_row : DS :=
  dSeq (dIfS (dNot (dB (dIsi "tuple" (dVar 0)))) (dRet (dC (.bool false))) (dNext)) (dSeq (dAsg (dC (.int 1)) (dName 2)) (dSeq (dFor (iSeq (dVar 0)) (dName 3) (dSeq (dIfS (dB (dOp eqD (dVar 2) (dC (.int 0)))) (dRet (dC (.bool false))) (dNext)) (dSeq (dIfS (dAnd (dNot (dB (dCallP sp_is_symbol (aCons (dVar 3) (aNil))))) (dNot (dAnd (dB (dVar 1)) (dB (dNeverE))))) (dRet (dC (.bool false))) (dNext)) (dAsg (dOp subD (dOp addD (dVar 2) (dOp ixD (dVar 3) (dC (.int 1)))) (dC (.int 1))) (dName 2))))) (dRet (dOp eqD (dVar 2) (dC (.int 0))))))
theorem sym_two {p : PyData} (h : isSymP p = true) : ∃ x y, p = .tuple [x, .int y] ∧ manyP p = y := by
  cases p with
  | tuple ps =>
    by_cases hl : ps.length = 2
    · match ps, hl with
      | [x, y], _ =>
        have h' : sym2 x y = true := h
        cases x <;> cases y <;> first | (cases h'; done) | exact ⟨_, _, rfl, rfl⟩
    · rw [sym_len hl] at h; cases h
  | _ => cases h
theorem law_a_is_row {a b c} (h : sp_a_is_row a b c) : t_a_is_row { nx := fun _ _ => b .none, rt := fun d M => ∃ r, viewD M d = some r ∧ b r } (startD ["thing", "holes", "need", "symbol"] (a.map .dat)) M0 := by
  obtain ⟨p, rfl, f, q⟩ := h
  refine ⟨_, ty_fit f, ?_⟩
  rw [is_tup]
  cases p with
  | tuple ps =>
    obtain ⟨hf, hl⟩ := fit_tup f
    have q' : b (.bool (rowP 1 ps)) := q
    refine ⟨_, rfl, goFor_ind D.dat (fun l δ M => M = M0 ∧ ∃ (n : Int) (o : Option D), δ = [some (.dat (.tuple ps)), some (.dat (.bool false)), some (.dat (.int n)), o] ∧ b (.bool (rowP n l)) ∧ fits l = true) ?_ ?_ ps rfl ⟨rfl, 1, none, rfl, q', hf⟩⟩
    · rintro δ M ⟨rfl, n, o, rfl, k, _⟩
      exact ⟨rfl, _, rfl, k⟩
    · rintro p l δ M K ⟨rfl, n, o, rfl, k, hf⟩ hK
      have hf' := Bool.and_eq_true_iff.mp (show (fit p && fits l) = true from hf)
      have k' : b (.bool (!decide (n = 0) && (isSymP p && rowP (n + manyP p - 1) l))) := k
      refine ⟨rfl, if_b (fun e => ?_) fun e => ?_⟩
      · rw [e] at k'
        exact ⟨_, rfl, k'⟩
      · rw [e, Bool.not_false, Bool.true_and] at k'
        refine ⟨_, rfl, p, rfl, hf'.1, ?_⟩
        cases es : isSymP p with
        | false =>
          rw [es] at k'
          exact ⟨_, rfl, k'⟩
        | true =>
          obtain ⟨x, y, rfl, ey⟩ := sym_two es
          rw [es, ey, Bool.true_and] at k'
          exact ⟨_, _, rfl, rfl, hK _ _ ⟨rfl, _, _, rfl, k', hf'.2⟩⟩
  | _ => exact ⟨_, rfl, q⟩
theorem len_is_tree {a b c} (h : sp_is_tree a b c) : a.length = 1 := by
  obtain ⟨c, rfl, _⟩ := h; rfl
def t_is_tree : DS :=
  dRet (dCallP sp_a_is_row (aCons (dVar 0) (aCons (dC (.bool false)) (aNil))))
theorem law_is_tree {a b c} (h : sp_is_tree a b c) : t_is_tree { nx := fun _ _ => b .none, rt := fun d M => ∃ r, viewD M d = some r ∧ b r } (startD ["thing"] (a.map .dat)) M0 := by
  obtain ⟨p, rfl, f, q⟩ := h
  exact ⟨_, rfl, p, rfl, f, _, rfl, q⟩
end DL
set_option Elab.async false
set_option linter.all false
set_option maxRecDepth 100000
set_option maxHeartbeats 4000000
namespace DL
open PySem PySem.Spec PyProof.Rows L2
/-! PL3: the judging of sheets, sums of pairs. -/
def pair2 : PyData → PyData → Bool
  | x, y => isInt x && isInt y
def isPairP : PyData → Bool
  | .tuple [x, y] => pair2 x y
  | _ => false
theorem pair_len : ∀ {ps : List PyData}, ps.length ≠ 2 → isPairP (.tuple ps) = false
  | [], _ => rfl
  | [_], _ => rfl
  | [_, _], h => absurd rfl h
  | _ :: _ :: _ :: _, _ => rfl
def isRowP (n : Nat) : PyData → Bool
  | .tuple ps => decide (ps.length = n) && ps.all isPairP
  | _ => false
def rowsP (n m : Nat) : PyData → Bool
  | .tuple ps => decide (ps.length = m) && ps.all (isRowP n)
  | _ => false
def isSheetP (n m : Nat) : PyData → Bool
  | .tuple [z, h] => isRowP n z && rowsP n m h
  | _ => false
theorem sheet_len {n m : Nat} : ∀ {ps : List PyData}, ps.length ≠ 2 → isSheetP n m (.tuple ps) = false
  | [], _ => rfl
  | [_], _ => rfl
  | [_, _], h => absurd rfl h
  | _ :: _ :: _ :: _, _ => rfl
def sp_is_integer_pair : PSp := fun qs Qd _ => ∃ p, qs = [p] ∧ fit p = true ∧ Qd (.bool (isPairP p))
def sp_is_pair_row : PSp := fun qs Qd _ => ∃ p n, qs = [p, .int (n : Nat)] ∧ fit p = true ∧ Qd (.bool (isRowP n p))
def sp_is_sheet : PSp := fun qs Qd _ => ∃ p n m, qs = [p, .int (n : Nat), .int (m : Nat)] ∧ fit p = true ∧ Qd (.bool (isSheetP n m p))
def sp_law_is_row : PSp := fun qs Qd _ => ∃ p n, qs = [p, .int (n : Nat)] ∧ fit p = true ∧ Qd (.bool (isRowP n p))
def sp_added_pairs : PSp := fun qs Qd _ => ∃ p ps, qs = [encP p, .list (ps.map encP)] ∧ ps.length ≤ 1000 ∧ Qd (encP (addPs p ps))
def sp_law_sum : PSp := fun qs Qd _ => ∃ p ps, qs = [encP p, .list (ps.map encP)] ∧ ps.length ≤ 1000 ∧ Qd (encP (addPs p ps))
theorem len_added_pairs {a b c} (h : sp_added_pairs a b c) : a.length = 2 := by
  obtain ⟨p, ps, rfl, _⟩ := h; rfl
def t_added_pairs : DS :=
  dRet (dTup (aCons (dOp addD (dOp ixD (dVar 0) (dC (.int 0))) (dCB sumC (aCons (dLc (iSeq (dVar 1)) (dName 2) (dYes) (dOp ixD (dVar 2) (dC (.int 0))) [2] finL) (aNil)))) (aCons (dOp addD (dOp ixD (dVar 0) (dC (.int 1))) (dCB sumC (aCons (dLc (iSeq (dVar 1)) (dName 2) (dYes) (dOp ixD (dVar 2) (dC (.int 1))) [2] finL) (aNil)))) (aNil))))
theorem law_added_pairs {a b c} (h : sp_added_pairs a b c) : t_added_pairs { nx := fun _ _ => b .none, rt := fun d M => ∃ r, viewD M d = some r ∧ b r } (startD ["first", "pairs", "pair"] (a.map .dat)) M0 := by
  obtain ⟨p, ps, rfl, hl, q⟩ := h
  refine ⟨_, _, rfl, rfl, _, rfl, by simp; omega, lc_dat ps encP (fun p => .int p.1) rfl (fun a _ K k => ⟨_, _, rfl, rfl, k⟩) ?_⟩
  refine ⟨ps.map (·.1), by rw [List.map_map]; rfl, ?_⟩
  refine ⟨_, _, rfl, rfl, _, rfl, by simp; omega, lc_dat ps encP (fun p => .int p.2) rfl (fun a _ K k => ⟨_, _, rfl, rfl, k⟩) ?_⟩
  refine ⟨ps.map (·.2), by rw [List.map_map]; rfl, ?_⟩
  exact ⟨ok16 rfl, _, rfl, q⟩
theorem len_law_sum {a b c} (h : sp_law_sum a b c) : a.length = 2 := by
  obtain ⟨p, ps, rfl, _⟩ := h; rfl
def t_law_sum : DS :=
  dRet (dTup (aCons (dOp addD (dOp ixD (dVar 0) (dC (.int 0))) (dCB sumC (aCons (dLc (iSeq (dVar 1)) (dName 2) (dYes) (dOp ixD (dVar 2) (dC (.int 0))) [2] finL) (aNil)))) (aCons (dOp addD (dOp ixD (dVar 0) (dC (.int 1))) (dCB sumC (aCons (dLc (iSeq (dVar 1)) (dName 2) (dYes) (dOp ixD (dVar 2) (dC (.int 1))) [2] finL) (aNil)))) (aNil))))
theorem law_law_sum {a b c} (h : sp_law_sum a b c) : t_law_sum { nx := fun _ _ => b .none, rt := fun d M => ∃ r, viewD M d = some r ∧ b r } (startD ["_law_pair", "_law_pairs", "_law_row"] (a.map .dat)) M0 := by
  obtain ⟨p, ps, rfl, hl, q⟩ := h
  refine ⟨_, _, rfl, rfl, _, rfl, by simp; omega, lc_dat ps encP (fun p => .int p.1) rfl (fun a _ K k => ⟨_, _, rfl, rfl, k⟩) ?_⟩
  refine ⟨ps.map (·.1), by rw [List.map_map]; rfl, ?_⟩
  refine ⟨_, _, rfl, rfl, _, rfl, by simp; omega, lc_dat ps encP (fun p => .int p.2) rfl (fun a _ K k => ⟨_, _, rfl, rfl, k⟩) ?_⟩
  refine ⟨ps.map (·.2), by rw [List.map_map]; rfl, ?_⟩
  exact ⟨ok16 rfl, _, rfl, q⟩
theorem lc_id {te : DE} {i : Nat} {δw : Sd} {stay : Mp → Prop} {M : Mp} {Q : DK} (ps : List PyData) (f : PyData → PyData) (hs : stay M) (ht : ∀ a ∈ ps, ∀ K : DK, K (.dat (f a)) M → te (δw.set i (some (.dat a))) M K) (q : Q (.dat (.list (ps.map f))) M) :
    goLc (dName i) dYes te stay δw (ps.map D.dat) M fun acc M2 => finL acc M2 Q :=
  lc_map ps D.dat (fun a => .dat (f a)) rfl hs ht (finL_map f ps q)
theorem len_is_integer_pair {a b c} (h : sp_is_integer_pair a b c) : a.length = 1 := by
  obtain ⟨c, rfl, _⟩ := h; rfl
def t_is_integer_pair : DS :=
  dSeq (dIfS (dOr (dNot (dB (dIsi "tuple" (dVar 0)))) (dB (dOp neD (dCB lenC (aCons (dVar 0) (aNil))) (dC (.int 2))))) (dRet (dC (.bool false))) (dNext)) (dRet (dCB allC (aCons (dLc (iSeq (dVar 0)) (dName 1) (dYes) (dAndV (dIsi "int" (dVar 1)) (dNotV (dIsi "bool" (dVar 1)))) [1] finL) (aNil))))
theorem law_is_integer_pair {a b c} (h : sp_is_integer_pair a b c) : t_is_integer_pair { nx := fun _ _ => b .none, rt := fun d M => ∃ r, viewD M d = some r ∧ b r } (startD ["thing", "entry"] (a.map .dat)) M0 := by
  obtain ⟨p, rfl, f, q⟩ := h
  refine ⟨_, ty_fit f, ?_⟩
  rw [is_tup]
  cases p with
  | tuple ps =>
    obtain ⟨hf, hl⟩ := fit_tup f
    refine ⟨_, rfl, if_b (fun e => ?_) fun e => ?_⟩
    · rw [pair_len (len2n e)] at q
      exact ⟨_, rfl, q⟩
    obtain ⟨x, y, rfl⟩ := len2 e
    refine ⟨_, rfl, ok16 rfl, lc_id [x, y] (fun p => .bool (isInt p)) rfl (fun p hp K k => ?_) ⟨[isInt x, isInt y], rfl, _, rfl, ?_⟩⟩
    · have fp := fits_mem hf hp
      refine ⟨_, ty_fit fp, ?_⟩
      rw [is_int]
      cases p with
      | int i => exact ⟨_, rfl, k⟩
      | bool c => exact ⟨_, rfl, k⟩
      | _ => exact k
    · rw [show [isInt x, isInt y].all id = pair2 x y by unfold pair2; simp]
      exact q
  | _ => exact ⟨_, rfl, q⟩
theorem lenN {α : Type} {f : α → D} {ps : List α} {n : Nat} : (!decide ((((ps.map f).length : Nat) : Int) = ((n : Nat) : Int))) = !decide (ps.length = n) := by
  rw [List.length_map]
  congr 1
  exact decide_eq_decide.mpr ⟨fun h => by omega, fun h => by rw [h]⟩
theorem len_is_pair_row {a b c} (h : sp_is_pair_row a b c) : a.length = 2 := by
  obtain ⟨c, n, rfl, _⟩ := h; rfl
def t_is_pair_row : DS :=
  dSeq (dIfS (dOr (dNot (dB (dIsi "tuple" (dVar 0)))) (dB (dOp neD (dCB lenC (aCons (dVar 0) (aNil))) (dVar 1)))) (dRet (dC (.bool false))) (dNext)) (dRet (dCB allC (aCons (dLc (iSeq (dVar 0)) (dName 2) (dYes) (dCallP sp_is_integer_pair (aCons (dVar 2) (aNil))) [2] finL) (aNil))))
theorem law_is_pair_row {a b c} (h : sp_is_pair_row a b c) : t_is_pair_row { nx := fun _ _ => b .none, rt := fun d M => ∃ r, viewD M d = some r ∧ b r } (startD ["thing", "many", "entry"] (a.map .dat)) M0 := by
  obtain ⟨p, n, rfl, f, q⟩ := h
  refine ⟨_, ty_fit f, ?_⟩
  rw [is_tup]
  cases p with
  | tuple ps =>
    obtain ⟨hf, hl⟩ := fit_tup f
    have q' : b (.bool (decide (ps.length = n) && ps.all isPairP)) := q
    refine ⟨_, rfl, if_b (fun e => ?_) fun e => ?_⟩
    · rw [lenN, Bool.not_eq_true'] at e
      rw [e] at q'
      exact ⟨_, rfl, q'⟩
    rw [lenN, Bool.not_eq_false'] at e
    rw [e, Bool.true_and] at q'
    refine ⟨_, rfl, by rw [List.length_map]; omega, lc_id ps (fun p => .bool (isPairP p)) rfl (fun p hp K k => ⟨_, rfl, p, rfl, fits_mem hf hp, k⟩) ⟨ps.map isPairP, by rw [List.map_map]; rfl, _, rfl, ?_⟩⟩
    rw [List.all_map]
    exact q'
  | _ => exact ⟨_, rfl, q⟩
theorem len_is_sheet {a b c} (h : sp_is_sheet a b c) : a.length = 3 := by
  obtain ⟨c, n, m, rfl, _⟩ := h; rfl
def t_is_sheet : DS :=
  dSeq (dIfS (dOr (dNot (dB (dIsi "tuple" (dVar 0)))) (dOr (dB (dOp neD (dCB lenC (aCons (dVar 0) (aNil))) (dC (.int 2)))) (dNot (dB (dCallP sp_is_pair_row (aCons (dOp ixD (dVar 0) (dC (.int 0))) (aCons (dVar 1) (aNil)))))))) (dRet (dC (.bool false))) (dNext)) (dSeq (dIfS (dOr (dNot (dB (dIsi "tuple" (dOp ixD (dVar 0) (dC (.int 1)))))) (dB (dOp neD (dCB lenC (aCons (dOp ixD (dVar 0) (dC (.int 1))) (aNil))) (dVar 2)))) (dRet (dC (.bool false))) (dNext)) (dRet (dCB allC (aCons (dLc (iSeq (dOp ixD (dVar 0) (dC (.int 1)))) (dName 3) (dYes) (dCallP sp_is_pair_row (aCons (dVar 3) (aCons (dVar 1) (aNil)))) [3] finL) (aNil)))))
theorem law_is_sheet {a b c} (h : sp_is_sheet a b c) : t_is_sheet { nx := fun _ _ => b .none, rt := fun d M => ∃ r, viewD M d = some r ∧ b r } (startD ["thing", "names", "nodes", "row"] (a.map .dat)) M0 := by
  obtain ⟨p, n, m, rfl, f, q⟩ := h
  refine ⟨_, ty_fit f, ?_⟩
  rw [is_tup]
  cases p with
  | tuple ps =>
    obtain ⟨hf, hl⟩ := fit_tup f
    refine ⟨_, rfl, if_b (fun e => ?_) fun e => ?_⟩
    · rw [sheet_len (len2n e)] at q
      exact ⟨_, rfl, q⟩
    obtain ⟨x, y, rfl⟩ := len2 e
    have q' : b (.bool (isRowP n x && rowsP n m y)) := q
    have fx : fit x = true := fits_mem hf (by simp)
    have fy : fit y = true := fits_mem hf (by simp)
    refine ⟨_, _, rfl, rfl, _, rfl, x, n, rfl, fx, if_b (fun e => ?_) fun e => ?_⟩
    · rw [Bool.not_eq_true'] at e
      rw [e] at q'
      exact ⟨_, rfl, q'⟩
    rw [Bool.not_eq_false'] at e
    rw [e, Bool.true_and] at q'
    refine ⟨_, _, rfl, rfl, _, ty_fit fy, ?_⟩
    rw [is_tup]
    cases y with
    | tuple rs =>
      obtain ⟨hf, hl⟩ := fit_tup fy
      have q2 : b (.bool (decide (rs.length = m) && rs.all (isRowP n))) := q'
      refine ⟨_, _, rfl, rfl, _, rfl, if_b (fun e => ?_) fun e => ?_⟩
      · rw [lenN, Bool.not_eq_true'] at e
        rw [e] at q2
        exact ⟨_, rfl, q2⟩
      rw [lenN, Bool.not_eq_false'] at e
      rw [e, Bool.true_and] at q2
      refine ⟨_, _, rfl, rfl, _, rfl, by rw [List.length_map]; omega, lc_id rs (fun p => .bool (isRowP n p)) rfl (fun p hp K k => ⟨_, rfl, p, n, rfl, fits_mem hf hp, k⟩) ⟨rs.map (isRowP n), by rw [List.map_map]; rfl, _, rfl, ?_⟩⟩
      rw [List.all_map]
      exact q2
    | _ => exact ⟨_, rfl, q'⟩
  | _ => exact ⟨_, rfl, q⟩
theorem len_law_is_row {a b c} (h : sp_law_is_row a b c) : a.length = 2 := by
  obtain ⟨c, n, rfl, _⟩ := h; rfl
def t_law_is_row : DS :=
  dSeq (dIfS (dOr (dNot (dB (dIsi "tuple" (dVar 0)))) (dB (dOp neD (dCB lenC (aCons (dVar 0) (aNil))) (dVar 1)))) (dRet (dC (.bool false))) (dNext)) (dSeq (dFor (iSeq (dVar 0)) (dName 2) (dSeq (dIfS (dOr (dNot (dB (dIsi "tuple" (dVar 2)))) (dB (dOp neD (dCB lenC (aCons (dVar 2) (aNil))) (dC (.int 2))))) (dRet (dC (.bool false))) (dNext)) (dFor (iSeq (dVar 2)) (dName 3) (dIfS (dOr (dB (dIsi "bool" (dVar 3))) (dNot (dB (dIsi "int" (dVar 3))))) (dRet (dC (.bool false))) (dNext))))) (dRet (dC (.bool true))))
theorem law_law_is_row {a b c} (h : sp_law_is_row a b c) : t_law_is_row { nx := fun _ _ => b .none, rt := fun d M => ∃ r, viewD M d = some r ∧ b r } (startD ["_law_thing", "_law_many", "_law_pair", "_law_number"] (a.map .dat)) M0 := by
  obtain ⟨p, n, rfl, f, q⟩ := h
  refine ⟨_, ty_fit f, ?_⟩
  rw [is_tup]
  cases p with
  | tuple ps =>
    obtain ⟨hf, hl⟩ := fit_tup f
    have q' : b (.bool (decide (ps.length = n) && ps.all isPairP)) := q
    refine ⟨_, rfl, if_b (fun e => ?_) fun e => ?_⟩
    · rw [lenN, Bool.not_eq_true'] at e
      rw [e] at q'
      exact ⟨_, rfl, q'⟩
    rw [lenN, Bool.not_eq_false'] at e
    rw [e, Bool.true_and] at q'
    refine ⟨_, rfl, goFor_ind D.dat (fun l δ M => M = M0 ∧ ∃ (o o2 : Option D), δ = [some (.dat (.tuple ps)), some (.dat (.int n)), o, o2] ∧ b (.bool (l.all isPairP)) ∧ fits l = true) ?_ ?_ ps rfl ⟨rfl, none, none, rfl, q', hf⟩⟩
    · rintro δ M ⟨rfl, o, o2, rfl, k, _⟩
      exact ⟨rfl, _, rfl, k⟩
    · rintro p l δ M K ⟨rfl, o, o2, rfl, k, hf⟩ hK
      have hf' := Bool.and_eq_true_iff.mp (show (fit p && fits l) = true from hf)
      have k' : b (.bool (isPairP p && l.all isPairP)) := k
      refine ⟨rfl, _, ty_fit hf'.1, ?_⟩
      rw [is_tup]
      cases p with
      | tuple ps =>
        obtain ⟨hf3, hl3⟩ := fit_tup hf'.1
        refine ⟨_, rfl, if_b (fun e => ?_) fun e => ?_⟩
        · rw [pair_len (len2n e)] at k'
          exact ⟨_, rfl, k'⟩
        obtain ⟨x, y, rfl⟩ := len2 e
        have k2 : b (.bool ((isInt x && isInt y) && l.all isPairP)) := k'
        refine ⟨_, rfl, rfl, ?_⟩
        have fx : fit x = true := fits_mem hf3 (by simp)
        have fy : fit y = true := fits_mem hf3 (by simp)
        refine ⟨_, ty_fit fx, ?_⟩
        rw [is_bl]
        cases x with
        | int i =>
          refine ⟨_, rfl, rfl, ?_⟩
          refine ⟨_, ty_fit fy, ?_⟩
          rw [is_bl]
          cases y with
          | int j =>
            refine ⟨_, rfl, rfl, hK _ _ ⟨rfl, _, _, rfl, k2, hf'.2⟩⟩
          | bool j => exact ⟨_, rfl, k2⟩
          | dict _ => cases fy
          | _ => exact ⟨_, rfl, _, rfl, k2⟩
        | bool i => exact ⟨_, rfl, k2⟩
        | dict _ => cases fx
        | _ => exact ⟨_, rfl, _, rfl, k2⟩
      | _ => exact ⟨_, rfl, k'⟩
  | _ => exact ⟨_, rfl, q⟩
end DL
set_option Elab.async false
set_option linter.all false
/-! PM1: trees as rows of symbols: roots of a suffix. Plain mathematics. -/
namespace DL
section
variable {σ : Type}
/-- the roots of the forest that starts at place k -/
def roots : Nat → List (σ × Nat) → List Nat
  | _, [] => []
  | k, s :: r => k :: (roots (k + 1) r).drop s.2
abbrev RT (t : List (σ × Nat)) (k : Nat) : List Nat := roots k (t.drop k)
/-- every node has as many roots behind it as it wants -/
def Wf (t : List (σ × Nat)) : Prop := ∀ k s, t[k]? = some s → s.2 ≤ (RT t (k + 1)).length
def many (t : List (σ × Nat)) (k : Nat) : Nat := match t[k]? with
  | some s => s.2
  | none => 0
/-- the place behind the piece at k -/
def EN (t : List (σ × Nat)) (k : Nat) : Nat := (RT t k).tail.headD t.length
/-- the parts beneath k -/
def BN (t : List (σ × Nat)) (k : Nat) : List Nat := (RT t (k + 1)).take (many t k)
variable {t : List (σ × Nat)} {k : Nat}
theorem RT_end (h : t.length ≤ k) : RT t k = [] := by unfold RT; rw [List.drop_of_length_le h]; rfl
theorem many_at {s : σ × Nat} (h : t[k]? = some s) : many t k = s.2 := by unfold many; rw [h]
theorem RT_step (h : k < t.length) : RT t k = k :: (RT t (k + 1)).drop (many t k) := by
  unfold RT
  rw [List.drop_eq_getElem_cons h, roots, many_at (List.getElem?_eq_getElem h)]
theorem roots_ge : ∀ (t : List (σ × Nat)) (k r : Nat), r ∈ roots k t → k ≤ r ∧ r < k + t.length
  | [], _, _, h => by cases h
  | s :: t, k, r, h => by
    rcases List.mem_cons.mp (show r ∈ k :: (roots (k + 1) t).drop s.2 from h) with rfl | h
    · simp
    · have := roots_ge t (k + 1) r (List.mem_of_mem_drop h)
      simp; omega
theorem RT_mem {r : Nat} (h : r ∈ RT t k) : k ≤ r ∧ r < t.length := by
  have := roots_ge _ _ _ h
  rw [List.length_drop] at this
  omega
theorem RT_len (t : List (σ × Nat)) (k : Nat) : (RT t k).length ≤ t.length - k := by
  unfold RT
  generalize e : t.drop k = u
  have hl : u.length = t.length - k := by rw [← e, List.length_drop]
  rw [← hl]
  clear e hl
  induction u generalizing k with
  | nil => exact Nat.le_refl _
  | cons s u ih =>
    rw [roots, List.length_cons, List.length_cons, List.length_drop]
    have := ih (k + 1)
    omega
/-- the roots behind a root -/
theorem RT_at : ∀ (n k i r : Nat), t.length - k ≤ n → (RT t k)[i]? = some r → RT t r = (RT t k).drop i
  | 0, k, i, r, hn, h => by
    rw [RT_end (by omega)] at h; cases h
  | n + 1, k, i, r, hn, h => by
    rcases Nat.lt_or_ge k t.length with hk | hk
    · cases i with
      | zero =>
        rw [RT_step hk] at h
        cases h
        rfl
      | succ i =>
        rw [RT_step hk] at h ⊢
        rw [List.getElem?_cons_succ, List.getElem?_drop] at h
        rw [List.drop_succ_cons, RT_at n (k + 1) (many t k + i) r (by omega) h, List.drop_drop]
    · rw [RT_end hk] at h; cases h
theorem RT_get {i r : Nat} (h : (RT t k)[i]? = some r) : RT t r = (RT t k).drop i := RT_at _ k i r (Nat.le_refl _) h
theorem EN_get {i r : Nat} (h : (RT t k)[i]? = some r) : EN t r = ((RT t k).drop (i + 1)).headD t.length := by
  unfold EN
  rw [RT_get h]
  congr 1
  rw [List.tail_drop]
theorem EN_step (h : k < t.length) : EN t k = ((RT t (k + 1)).drop (many t k)).headD t.length := by
  unfold EN
  rw [RT_step h, List.tail_cons]
theorem RT_head (h : k ≤ t.length) : (RT t k).headD t.length = k := by
  rcases Nat.lt_or_ge k t.length with hk | hk
  · rw [RT_step hk]; rfl
  · rw [RT_end hk]; show t.length = k; omega
theorem headD_drop {l : List Nat} {i d : Nat} : (l.drop i).headD d = l.getD i d := by
  rw [List.getD_eq_getElem?_getD, List.headD_eq_head?_getD, List.head?_drop]
theorem EN_le (h : k < t.length) : k < EN t k ∧ EN t k ≤ t.length := by
  rw [EN_step h, headD_drop, List.getD_eq_getElem?_getD]
  cases e : (RT t (k + 1))[many t k]? with
  | none => exact ⟨h, Nat.le_refl _⟩
  | some r =>
    have := RT_mem (List.mem_of_getElem? e)
    show k < r ∧ r ≤ t.length
    omega
theorem BN_mem {r : Nat} (h : r ∈ BN t k) : k < r ∧ r < t.length := by
  have := RT_mem (List.mem_of_mem_take h)
  omega
theorem BN_len (w : Wf t) (h : k < t.length) : (BN t k).length = many t k := by
  unfold BN
  rw [List.length_take]
  have := w k _ (List.getElem?_eq_getElem h)
  rw [← many_at (List.getElem?_eq_getElem h)] at this
  omega
/-- the sum of the pieces beneath, one after the other -/
theorem size_step {i r : Nat} (h : (RT t k)[i]? = some r) : EN t r = ((RT t k).getD (i + 1) t.length) := by
  rw [EN_get h, headD_drop]
/-- the sizes of the pieces beneath sum up -/
theorem size_sum (hk : k ≤ t.length) (m : Nat) (hm : m ≤ (RT t k).length) : (((RT t k).take m).map fun r => EN t r - r).sum + k = (RT t k).getD m t.length := by
  induction m with
  | zero =>
    rw [List.take_zero, ← headD_drop, List.drop_zero, RT_head hk]
    simp
  | succ m ih =>
    have hm' : m < (RT t k).length := hm
    have ih := ih (by omega)
    rw [List.take_add_one, List.getElem?_eq_getElem hm', List.map_append, List.sum_append]
    have e : (RT t k)[m]? = some (RT t k)[m] := List.getElem?_eq_getElem hm'
    have e2 := size_step e
    have e3 := EN_le (RT_mem (List.mem_of_getElem? e)).2
    rw [List.getD_eq_getElem?_getD, e] at ih
    simp only [Option.getD_some] at ih
    simp only [Option.toList_some, List.map_cons, List.map_nil, List.sum_cons, List.sum_nil]
    omega
theorem size_eq (w : Wf t) (h : k < t.length) : EN t k - k = 1 + ((BN t k).map fun r => EN t r - r).sum := by
  have e := size_sum (t := t) (k := k + 1) (by omega) (many t k) (by
    have := w k _ (List.getElem?_eq_getElem h)
    rw [← many_at (List.getElem?_eq_getElem h)] at this
    exact this)
  rw [EN_step h, headD_drop]
  unfold BN
  omega
end
end DL
set_option Elab.async false
set_option linter.all false
set_option maxRecDepth 100000
set_option maxHeartbeats 4000000
namespace DL
open PySem PySem.Spec PyProof.Rows L2
/-! PL4: trees by data: nodes beneath, sizes, ends. -/
abbrev Sym := Str × Nat
abbrev Tr := List Sym
def encS (s : Sym) : PyData := .tuple [.str s.1, .int (s.2 : Nat)]
def encT (t : Tr) : PyData := .tuple (t.map encS)
def encN (n : Nat) : PyData := .int (n : Nat)
def encL (ns : List Nat) : PyData := .tuple (ns.map encN)
def tal {α : Type} (n : Nat) (f : Nat → α) : List α := (List.range n).map f
theorem tal_get {α : Type} {n i : Nat} {f : Nat → α} (h : i < n) : (tal n f)[i]? = some (f i) := by
  unfold tal; rw [List.getElem?_map, List.getElem?_range h]; rfl
theorem tal_len {α : Type} {n : Nat} {f : Nat → α} : (tal n f).length = n := by unfold tal; rw [List.length_map, List.length_range]
theorem tal_set {α : Type} {n i : Nat} {f : Nat → α} (x : α) : (tal n f).set i x = tal n fun j => if j = i then x else f j := by
  apply List.ext_getElem?
  intro j
  rw [List.getElem?_set, tal_len]
  by_cases hj : j < n
  · rw [tal_get hj, tal_get hj]
    by_cases e : i = j
    · subst e; rw [if_pos rfl, if_pos hj, if_pos rfl]
    · rw [if_neg e, if_neg (fun z => e z.symm)]
  · rw [List.getElem?_eq_none (by rw [tal_len]; omega), List.getElem?_eq_none (by rw [tal_len]; omega)]
    by_cases e : i = j
    · rw [if_pos e, if_neg (by omega)]
    · rw [if_neg e]
theorem tal_ext {α : Type} {n : Nat} {f g : Nat → α} (h : ∀ i, i < n → f i = g i) : tal n f = tal n g := by
  unfold tal
  exact List.map_congr_left fun i hi => h i (List.mem_range.mp hi)
theorem tal_map {α β : Type} {n : Nat} {f : Nat → α} (g : α → β) : (tal n f).map g = tal n fun i => g (f i) := by unfold tal; rw [List.map_map]; rfl
def sp_nodes_beneath : PSp := fun qs Qd _ => ∃ t : Tr, qs = [encT t] ∧ Wf t ∧ t.length ≤ 1000 ∧ Qd (.list (tal t.length fun k => encL (BN t k)))
def sp_piece_sizes : PSp := fun qs Qd _ => ∃ t : Tr, qs = [.list (tal t.length fun k => encL (BN t k))] ∧ Wf t ∧ t.length ≤ 1000 ∧ Qd (.list (tal t.length fun k => encN (EN t k - k)))
def sp_law_ends : PSp := fun qs Qd _ => ∃ t : Tr, qs = [encT t] ∧ Wf t ∧ t.length ≤ 1000 ∧ Qd (.list (tal t.length fun k => encN (EN t k)))
/-- a loop downwards, k turns to go -/
theorem goFor_down {g : DG} {tb : DS} {E : DEnds} {stay : Mp → Prop} (I : Nat → Sd → Mp → Prop) (h0 : ∀ δ M, I 0 δ M → stay M ∧ E.nx δ M)
    (hs : ∀ k δ M (K : Sd → Mp → Prop), I (k + 1) δ M → (∀ δ M, I k δ M → K δ M) → stay M ∧ g (.dat (.int (k : Nat))) δ M fun δ2 M2 => tb { nx := K, rt := E.rt, ct := K, bk := E.nx, xn := E.xn } δ2 M2) :
    ∀ (n : Nat) {δ : Sd} {M : Mp}, I n δ M → goFor g tb E stay (upTo (n : Int)).reverse δ M := by
  intro n
  rw [upTo_eq]
  induction n with
  | zero => intro δ M h; exact h0 _ _ h
  | succ n ih =>
    intro δ M h
    rw [List.range_succ, List.map_append, List.reverse_append]
    exact hs n δ M _ h fun δ' M' h' => ih h'
/-- .. upwards -/
theorem goFor_up {g : DG} {tb : DS} {E : DEnds} {stay : Mp → Prop} (n : Nat) (I : Nat → Sd → Mp → Prop) (h0 : ∀ δ M, I n δ M → stay M ∧ E.nx δ M)
    (hs : ∀ k δ M (K : Sd → Mp → Prop), k < n → I k δ M → (∀ δ M, I (k + 1) δ M → K δ M) → stay M ∧ g (.dat (.int (k : Nat))) δ M fun δ2 M2 => tb { nx := K, rt := E.rt, ct := K, bk := E.nx, xn := E.xn } δ2 M2)
    {δ : Sd} {M : Mp} (h : I 0 δ M) : goFor g tb E stay (upTo (n : Int)) δ M := by
  rw [upTo_eq]
  have go : ∀ m k, k + m = n → ∀ {δ M}, I k δ M → goFor g tb E stay (((List.range n).drop k).map fun i => D.dat (.int ((i : Nat) : Int))) δ M := by
    intro m
    induction m with
    | zero =>
      intro k e δ M h
      rw [List.drop_of_length_le (by rw [List.length_range]; omega)]
      have e' : k = n := by omega
      subst e'
      exact h0 _ _ h
    | succ m ih =>
      intro k e δ M h
      rw [List.drop_eq_getElem_cons (by rw [List.length_range]; omega), List.getElem_range]
      exact hs k δ M _ (by omega) h fun δ' M' h' => ih (k + 1) (by omega) h'
  exact go n 0 (by omega) h
theorem cut_from {α : Type} {ps : List α} {k : Nat} : cutL ps (some (k : Int)) none = ps.drop k := by
  unfold cutL
  rw [HT.sIx_nat, HT.sIx_none]
  rcases Nat.le_total k ps.length with h | h
  · rw [Nat.min_eq_left h, List.take_of_length_le (by rw [List.length_drop]; omega)]
  · rw [Nat.min_eq_right h, List.drop_of_length_le (Nat.le_refl _), List.drop_of_length_le h, List.take_nil]
theorem cut_to {α : Type} {ps : List α} {k : Nat} : cutL ps none (some (k : Int)) = ps.take k := by
  unfold cutL
  rw [HT.sIx_nat, HT.sIx_none, List.drop_zero, Nat.sub_zero]
  rcases Nat.le_total k ps.length with h | h
  · rw [Nat.min_eq_left h]
  · rw [Nat.min_eq_right h, List.take_length, List.take_of_length_le h]
theorem repL_one {p : PyData} {n : Nat} : repL [p] (n : Int) = tal n fun _ => p := by
  unfold repL tal
  rw [Int.toNat_natCast]
  apply List.ext_getElem?
  intro j
  rw [List.getElem?_map]
  have : (List.replicate n [p]).flatten = List.replicate n p := by
    induction n with
    | zero => rfl
    | succ n ih => rw [List.replicate_succ, List.flatten_cons, ih, List.replicate_succ]; rfl
  rw [this, List.getElem?_replicate]
  by_cases h : j < n
  · rw [if_pos h, List.getElem?_range h]; rfl
  · rw [if_neg h, List.getElem?_eq_none (by rw [List.length_range]; omega)]; rfl
theorem optAll0 (ps : List PyData) (M : Mp) : optAll (view1 M) (ps.map D.dat) = some ps := by
  induction ps with
  | nil => rfl
  | cons p ps ih =>
    rw [List.map_cons, optAll, ih]; rfl
theorem view_lst {M : Mp} {a : Addr} {ps : List PyData} (h : M a = some (.lst (ps.map D.dat))) : viewD M (.ref a) = some (.list ps) := by
  unfold viewD
  dsimp only
  rw [h]
  show Option.map _ (optAll (view1 M) (ps.map D.dat)) = _
  rw [optAll0]; rfl
theorem t_get {t : Tr} {k : Nat} (h : k < t.length) : ∃ s, t[k]? = some s ∧ many t k = s.2 := ⟨t[k], List.getElem?_eq_getElem h, many_at (List.getElem?_eq_getElem h)⟩
theorem len_nodes_beneath {a b c} (h : sp_nodes_beneath a b c) : a.length = 1 := by
  obtain ⟨t, rfl, _⟩ := h; rfl
def t_nodes_beneath : DS :=
  dSeq (dAsg (dOp mulM (dLst (aCons (dTup (aNil)) (aNil))) (dCB lenC (aCons (dVar 0) (aNil)))) (dName 1)) (dSeq (dAsg (dLst (aNil)) (dName 2)) (dSeq (dFor (iRevRange (dCB lenC (aCons (dVar 0) (aNil)))) (dName 3) (dSeq (dAsg (dOp subD (dCB lenC (aCons (dVar 2) (aNil))) (dOp ixD (dOp ixD (dVar 0) (dVar 3)) (dC (.int 1)))) (dName 4)) (dSeq (dAsg (dCB tupleC (aCons (dRevL (dSl (dVar 2) (oSome (dVar 4)) (oNone))) (aNil))) (dSub (dVar 1) (dVar 3) (setL))) (dAsg (dOp addD (dSl (dVar 2) (oNone) (oSome (dVar 4))) (dLst (aCons (dVar 3) (aNil)))) (dName 2))))) (dRet (dVar 1))))
theorem law_nodes_beneath {a b c} (h : sp_nodes_beneath a b c) : t_nodes_beneath { nx := fun _ _ => b .none, rt := fun d M => ∃ r, viewD M d = some r ∧ b r } (startD ["tree", "found", "waiting", "node", "keep"] (a.map .dat)) M0 := by
  obtain ⟨t, rfl, w, hl, q⟩ := h
  have e0 : ((t.map encS).map D.dat).length = t.length := by rw [List.length_map, List.length_map]
  refine ⟨ok16 rfl, ok16 rfl, _, rfl, ?_⟩
  rw [e0]
  refine ⟨by omega, by omega, rfl, fun p hp => ⟨ok16 rfl, _, rfl, ?_⟩⟩
  rw [e0]
  refine ⟨by omega, goFor_down (fun k δ M => ∃ o3 o4, k ≤ t.length ∧ δ = [some (.dat (encT t)), some (.ref p), some (.dat (.list ((RT t k).reverse.map encN))), o3, o4] ∧ M p = some (.lst ((tal t.length fun j => if k ≤ j then encL (BN t j) else .tuple []).map D.dat))) ?_ ?_ t.length ⟨none, none, Nat.le_refl _, by rw [RT_end (Nat.le_refl _)]; rfl, ?_⟩⟩
  · rintro δ M ⟨o3, o4, hk, rfl, hM⟩
    refine ⟨trivial, ⟨_, view_lst hM, ?_⟩⟩
    exact q
  · rintro k δ M K ⟨o3, o4, hk, rfl, hM⟩ hK
    obtain ⟨s, es, em⟩ := t_get (t := t) (k := k) hk
    have hw : s.2 ≤ (RT t (k + 1)).length := w k s es
    refine ⟨trivial, _, rfl, _, _, rfl, atI_map es, _, _, rfl, atI_nat (i := 1) rfl, ?_⟩
    have el : ((((((RT t (k + 1)).reverse.map encN).map D.dat).length : Nat) : Int) - ((s.2 : Nat) : Int)) = (((RT t (k + 1)).length - s.2 : Nat) : Int) := by
      rw [List.length_map, List.length_map, List.length_reverse]; omega
    dsimp only [subD]
    rw [el]
    refine ⟨_, _, rfl, datsOf_map _, ?_⟩
    rw [cut_from]
    refine ⟨_, _, hM, ixN_nat (by rw [List.length_map, tal_len]; omega), ?_⟩
    refine ⟨ok16 rfl, ?_⟩
    dsimp only [addD]
    rw [cut_to]
    have hr := RT_step (t := t) (k := k) hk
    have e6 : (((RT t (k + 1)).reverse.map encN).take ((RT t (k + 1)).length - s.2) ++ [PyData.int (k : Nat)]) = (RT t k).reverse.map encN := by
      rw [hr, em, List.reverse_cons, List.map_append, ← List.map_take, List.take_reverse, show (RT t (k + 1)).length - ((RT t (k + 1)).length - s.2) = s.2 by omega]
      rfl
    have e7 : (((RT t (k + 1)).reverse.map encN).drop ((RT t (k + 1)).length - s.2)).reverse = (BN t k).map encN := by
      rw [← List.map_drop, List.drop_reverse, ← List.map_reverse, List.reverse_reverse, show (RT t (k + 1)).length - ((RT t (k + 1)).length - s.2) = s.2 by omega, ← em]
      rfl
    refine ⟨?_, ?_⟩
    · have hl := RT_len t (k + 1)
      simp; omega
    rw [e6, e7]
    refine hK _ _ ⟨_, _, by omega, rfl, ?_⟩
    rw [updM_same]
    congr 2
    rw [show D.dat (PyData.tuple ((BN t k).map encN)) = D.dat (encL (BN t k)) from rfl, ← List.map_set, tal_set]
    congr 1
    refine tal_ext fun i hi => ?_
    by_cases e : i = k
    · subst e; rw [if_pos rfl, if_pos (Nat.le_refl _)]
    · rw [if_neg e]
      by_cases e2 : k + 1 ≤ i
      · rw [if_pos e2, if_pos (by omega)]
      · rw [if_neg e2, if_neg (by omega)]
  · rw [updM_same, repL_one]
    congr 3
    exact tal_ext fun i hi => by rw [if_neg (by omega)]
end DL
set_option Elab.async false
set_option linter.all false
set_option maxRecDepth 100000
set_option maxHeartbeats 4000000
namespace DL
open PySem PySem.Spec PyProof.Rows L2
/-! PL5: sizes, ends. -/
theorem seq_ref {M : Mp} {a : Addr} {ds : List D} (h : M a = some (.lst ds)) : seqOf M (.ref a) = some ds := by
  unfold seqOf; dsimp only; rw [h]
theorem tal_getD {α : Type} {n i : Nat} {f : Nat → α} {g : α → D} (h : i < n) : ((tal n f).map g)[i]? = some (g (f i)) := by
  rw [List.getElem?_map, tal_get h]; rfl
/-- the expression gives d and changes nothing -/
def Ev (te : DE) (δ : Sd) (M : Mp) (d : D) : Prop := ∀ Q : DK, Q d M → te δ M Q
theorem seq_asg {te : DE} {i : Nat} {u : DS} {E : DEnds} {δ : Sd} {M : Mp} {d : D} (h : Ev te δ M d) (k : u E (δ.set i (some d)) M) : dSeq (dAsg te (dName i)) u E δ M := h _ k
theorem asg_ev {te : DE} {i : Nat} {E : DEnds} {δ : Sd} {M : Mp} {d : D} (h : Ev te δ M d) (k : E.nx (δ.set i (some d)) M) : dAsg te (dName i) E δ M := h _ k
theorem q_int_eq {Q : DK} {M : Mp} {a c : Int} (e : a = c) (q : Q (.dat (.int c)) M) : Q (.dat (.int a)) M := by subst e; exact q
theorem len_piece_sizes {a b c} (h : sp_piece_sizes a b c) : a.length = 1 := by
  obtain ⟨t, rfl, _⟩ := h; rfl
def t_piece_sizes : DS :=
  dSeq (dAsg (dOp mulM (dLst (aCons (dC (.int 1)) (aNil))) (dCB lenC (aCons (dVar 0) (aNil)))) (dName 1)) (dSeq (dFor (iRevRange (dCB lenC (aCons (dVar 0) (aNil)))) (dName 2) (dFor (iSeq (dOp ixD (dVar 0) (dVar 2))) (dName 3) (dAugS (dVar 1) (dVar 2) (dOp ixD (dVar 1) (dVar 3)) getL addI setL))) (dRet (dVar 1)))
theorem law_piece_sizes {a b c} (h : sp_piece_sizes a b c) : t_piece_sizes { nx := fun _ _ => b .none, rt := fun d M => ∃ r, viewD M d = some r ∧ b r } (startD ["beneath", "sizes", "node", "part"] (a.map .dat)) M0 := by
  obtain ⟨t, rfl, w, hl, q⟩ := h
  have e0 : ((tal t.length fun k => encL (BN t k)).map D.dat).length = t.length := by rw [List.length_map, tal_len]
  refine ⟨ok16 rfl, _, rfl, ?_⟩
  rw [e0]
  refine ⟨by omega, by omega, rfl, fun p hp => ⟨_, rfl, ?_⟩⟩
  rw [e0]
  refine ⟨by omega, goFor_down (fun k δ M => ∃ o2 o3, k ≤ t.length ∧ δ = [some (.dat (.list (tal t.length fun k => encL (BN t k)))), some (.ref p), o2, o3] ∧ M p = some (.lst ((tal t.length fun j => if k ≤ j then encN (EN t j - j) else encN 1).map D.dat))) ?_ ?_ t.length ⟨none, none, Nat.le_refl _, rfl, ?_⟩⟩
  · rintro δ M ⟨o3, o4, hk, rfl, hM⟩
    exact ⟨trivial, ⟨_, view_lst hM, q⟩⟩
  · rintro k δ M K ⟨o2, o3, hk, rfl, hM⟩ hK
    refine ⟨trivial, _, _, rfl, atI_nat (tal_getD hk), ?_⟩
    refine ⟨(BN t k).map fun r => D.dat (encN r), by show some _ = some _; rw [List.map_map]; rfl, ?_⟩
    refine goFor_ind (fun r => D.dat (encN r)) (fun l δ M => ∃ o3 done, done ++ l = BN t k ∧ δ = [some (.dat (.list (tal t.length fun k => encL (BN t k)))), some (.ref p), some (.dat (.int (k : Nat))), o3] ∧ M p = some (.lst ((tal t.length fun j => if k + 1 ≤ j then encN (EN t j - j) else if j = k then encN (1 + (done.map fun r => EN t r - r).sum) else encN 1).map D.dat))) ?_ ?_ (BN t k) rfl ⟨o3, [], rfl, rfl, ?_⟩
    · rintro δ M ⟨o3, done, ed, rfl, hM⟩
      rw [List.append_nil] at ed
      subst ed
      refine ⟨?_, hK _ _ ⟨_, _, by omega, rfl, ?_⟩⟩
      · show some _ = some _; rw [List.map_map]; rfl
      rw [hM]
      congr 3
      refine tal_ext fun i hi => ?_
      by_cases e : i = k
      · subst e
        rw [if_neg (by omega), if_pos rfl, if_pos (Nat.le_refl _), size_eq w hk]
      · by_cases e2 : k + 1 ≤ i
        · rw [if_pos e2, if_pos (by omega)]
        · rw [if_neg e2, if_neg e, if_neg (by omega)]
    · rintro r l δ M K2 ⟨o3, done, ed, rfl, hM⟩ hK2
      have hr : k < r ∧ r < t.length := BN_mem (t := t) (k := k) (by rw [← ed]; simp)
      refine ⟨by show some _ = some _; rw [List.map_map]; rfl, _, k, _, hM, rfl, tal_getD hk, _, _, seq_ref hM, atI_nat (tal_getD hr.2), ?_⟩
      rw [if_neg (by omega : ¬ k + 1 ≤ k), if_pos rfl, if_pos (by omega : k + 1 ≤ r)]
      refine ⟨_, _, hM, ixN_nat (by rw [List.length_map, tal_len]; omega), ?_⟩
      refine hK2 _ _ ⟨_, done ++ [r], by rw [List.append_assoc]; exact ed, rfl, ?_⟩
      rw [updM_same]
      congr 2
      rw [show D.dat (PyData.int (((1 + (done.map fun r => EN t r - r).sum : Nat) : Int) + ((EN t r - r : Nat) : Int))) = D.dat (encN (1 + ((done ++ [r]).map fun r => EN t r - r).sum)) by
        unfold encN
        rw [List.map_append, List.sum_append]
        simp; omega, ← List.map_set, tal_set]
      congr 1
      refine tal_ext fun i hi => ?_
      by_cases e : i = k
      · subst e; rw [if_pos rfl, if_neg (by omega), if_pos rfl]
      · rw [if_neg e]
        by_cases e2 : k + 1 ≤ i
        · rw [if_pos e2, if_pos e2]
        · rw [if_neg e2, if_neg e2, if_neg e, if_neg e]
    · rw [hM]
      congr 3
      refine tal_ext fun i hi => ?_
      by_cases e2 : k + 1 ≤ i
      · rw [if_pos e2, if_pos e2]
      · rw [if_neg e2, if_neg e2]
        by_cases e : i = k
        · rw [if_pos e]; rfl
        · rw [if_neg e]
  · rw [updM_same, repL_one]
    congr 3
    exact tal_ext fun i hi => by rw [if_neg (by omega)]; rfl
theorem len_law_ends {a b c} (h : sp_law_ends a b c) : a.length = 1 := by
  obtain ⟨t, rfl, _⟩ := h; rfl
def t_law_ends : DS :=
  dSeq (dAsg (dLc (iSeq (dVar 0)) (dName 7) (dYes) (dC (.int 0)) [7] finM) (dName 1)) (dSeq (dAsg (dLstM (aNil)) (dName 2)) (dSeq (dFor (iRange (dCB lenC (aCons (dVar 0) (aNil)))) (dName 3) (dSeq (dAsg (dOp subD (dOp subD (dCB lenC (aCons (dVar 0) (aNil))) (dC (.int 1))) (dVar 3)) (dName 4)) (dSeq (dAsg (dOp addD (dVar 4) (dC (.int 1))) (dName 5)) (dSeq (dFor (iRange (dOp ixD (dOp ixD (dVar 0) (dVar 4)) (dC (.int 1)))) (dName 6) (dAsg (dMeth0 popM (dVar 2)) (dName 5))) (dSeq (dAsg (dVar 5) (dSub (dVar 1) (dVar 4) (setL))) (dDrop (dMeth appendM (dVar 2) (aCons (dVar 5) (aNil))))))))) (dRet (dVar 1))))
theorem law_law_ends {a b c} (h : sp_law_ends a b c) : t_law_ends { nx := fun _ _ => b .none, rt := fun d M => ∃ r, viewD M d = some r ∧ b r } (startD ["_law_tree_here", "_law_ends_here", "_law_stack", "_law_k", "_law_node", "_law_end", "_law_part", "_law_symbol"] (a.map .dat)) M0 := by
  obtain ⟨t, rfl, w, hl, q⟩ := h
  have e0 : ((t.map encS).map D.dat).length = t.length := by rw [List.length_map, List.length_map]
  refine ⟨_, rfl, by rw [e0]; omega, lc_map (t.map encS) D.dat (fun _ => .dat (.int 0)) rfl rfl (fun a _ K k => k) fun p hp => ⟨ok16 rfl, fun p2 hp2 => ⟨_, rfl, ?_⟩⟩⟩
  rw [e0]
  have hne : p2 ≠ p := fun e => by subst e; rw [updM_same] at hp2; cases hp2
  refine ⟨by omega, goFor_up t.length (fun i δ M => ∃ o3 o4 o5 o6, i ≤ t.length ∧ δ = [some (.dat (encT t)), some (.ref p), some (.ref p2), o3, o4, o5, o6, none] ∧ M p = some (.lst ((tal t.length fun j => if t.length - i ≤ j then encN (EN t j) else encN 0).map D.dat)) ∧ M p2 = some (.lst (((RT t (t.length - i)).map (EN t)).reverse.map fun e => D.dat (encN e)))) ?_ ?_ ⟨none, none, none, none, by omega, rfl, ?_, ?_⟩⟩
  · rintro δ M ⟨o3, o4, o5, o6, hk, rfl, hM, hM2⟩
    refine ⟨trivial, ⟨_, view_lst hM, ?_⟩⟩
    rw [tal_ext (g := fun k => encN (EN t k)) fun i hi => by rw [if_pos (by omega)]]
    exact q
  · rintro i δ M K hi ⟨o3, o4, o5, o6, hk, rfl, hM, hM2⟩ hK
    obtain ⟨k, ek⟩ : ∃ k, t.length - i = k + 1 := ⟨t.length - i - 1, by omega⟩
    rw [ek] at hM hM2
    have hkl : k < t.length := by omega
    obtain ⟨s, es, em⟩ := t_get hkl
    have hrl := RT_len t (k + 1)
    have hw : s.2 ≤ (RT t (k + 1)).length := w k s es
    have ez : ((((t.map encS).map D.dat).length : Nat) : Int) - 1 - ((i : Nat) : Int) = ((k : Nat) : Int) := by rw [e0]; omega
    refine ⟨trivial, seq_asg (d := .dat (encN k)) (fun Q q => ⟨_, rfl, q_int_eq ez q⟩) ?_⟩
    refine ⟨_, _, rfl, atI_map es, _, _, rfl, atI_nat (i := 1) rfl, ⟨by omega, by omega⟩, ?_⟩
    refine goFor_up s.2 (fun m δ M => ∃ o6, m ≤ s.2 ∧ δ = [some (.dat (encT t)), some (.ref p), some (.ref p2), some (.dat (.int (i : Nat))), some (.dat (.int (k : Nat))), some (.dat (encN (((RT t (k + 1)).drop m).headD t.length))), o6, none] ∧ M p = some (.lst ((tal t.length fun j => if k + 1 ≤ j then encN (EN t j) else encN 0).map D.dat)) ∧ M p2 = some (.lst ((((RT t (k + 1)).drop m).map (EN t)).reverse.map fun e => D.dat (encN e)))) ?_ ?_ ⟨o6, by omega, ?_, hM, hM2⟩
    · rintro δ M ⟨o6, hm, rfl, hM, hM2⟩
      refine ⟨trivial, _, _, hM, ixN_nat (by rw [List.length_map, tal_len]; omega), ⟨_, by rw [updM_ne hne]; exact hM2⟩, _, by rw [updM_ne hne]; exact hM2, ?_, hK _ _ ⟨_, _, _, _, by omega, rfl, ?_, ?_⟩⟩
      · have := RT_len t (k + 1)
        simp; omega
      · rw [updM_ne (fun e => hne e.symm), updM_same, ← em, ← EN_step hkl]
        congr 2
        rw [← List.map_set, tal_set]
        congr 1
        refine tal_ext fun j hj => ?_
        by_cases e : j = k
        · subst e; rw [if_pos rfl, if_pos (by omega)]
        · rw [if_neg e]
          by_cases e2 : k + 1 ≤ j
          · rw [if_pos e2, if_pos (by omega)]
          · rw [if_neg e2, if_neg (by omega)]
      · rw [updM_same, show t.length - (i + 1) = k by omega, RT_step hkl, em, ← em, ← EN_step hkl]
        simp
    · rintro m δ M K2 hm ⟨o6, hm', rfl, hM, hM2⟩ hK2
      have hlt : m < (RT t (k + 1)).length := by omega
      rw [List.drop_eq_getElem_cons hlt] at hM2
      have e1 : (((((RT t (k + 1))[m] :: (RT t (k + 1)).drop (m + 1)).map (EN t)).reverse).map fun e => D.dat (encN e)) = ((((RT t (k + 1)).drop (m + 1)).map (EN t)).reverse.map fun e => D.dat (encN e)) ++ [D.dat (encN (EN t (RT t (k + 1))[m]))] := by
        rw [List.map_cons, List.reverse_cons, List.map_append]; rfl
      rw [e1] at hM2
      refine ⟨trivial, ⟨_, hM2⟩, _, _, hM2, ?_⟩
      rw [EN_get (List.getElem?_eq_getElem hlt)]
      exact hK2 _ _ ⟨_, by omega, rfl, by rw [updM_ne (fun e => hne e.symm)]; exact hM, by rw [updM_same]⟩
    · rw [List.drop_zero, RT_head (by omega)]
      rfl
  · rw [updM_ne (fun e => hne e.symm), updM_same]
    congr 2
    rw [List.map_map]
    unfold tal
    rw [List.map_map]
    apply List.ext_getElem?
    intro j
    rw [List.getElem?_map, List.getElem?_map]
    by_cases hj : j < t.length
    · rw [List.getElem?_range hj, List.getElem?_eq_getElem hj]
      show some _ = some _
      dsimp only [Function.comp]
      rw [if_neg (by omega)]; rfl
    · rw [List.getElem?_eq_none (by omega), List.getElem?_eq_none (by rw [List.length_range]; omega)]
      rfl
  · rw [updM_same, RT_end (by omega)]
    rfl
end DL
set_option Elab.async false
set_option linter.all false
set_option maxRecDepth 100000
set_option maxHeartbeats 4000000
namespace DL
open PySem PySem.Spec PyProof.Rows L2
/-! PL6: rules, sheets, bounds. -/
theorem shaped_sym {x : Str} (h : PyData.strOk x = true) (n : Int) : SeqAt.shaped (.tuple [.str x, .int n]) = true := by
  unfold SeqAt.shaped
  simp [PyData.canLay0, PyData.canLayAll0, PyData.depth, PyData.depthAll, h]
theorem cmp_pair (p q : Int × Int) : CmpOk [.int p.1, .int p.2] [.int q.1, .int q.2] := by
  unfold CmpOk
  simp [W.alikeAll, W.alike, PyData.depth, PyData.depthAll]
theorem eqv_sym (x y : Str) (m n : Nat) : PyData.eqvAll [.str x, .int m] [.str y, .int n] = decide ((x, m) = (y, n)) := by
  simp only [PyData.eqvAll, PyData.eqv]
  by_cases h1 : x = y <;> by_cases h2 : m = n <;> simp [h1, h2]
  omega
theorem ltT_pair (p q : Int × Int) : ltT [.int p.1, .int p.2] [.int q.1, .int q.2] = pLt p q := encP_lt p q
structure Rl where
  res : Nat
  word : Str
  parts : List Nat
abbrev PI := Int × Int
abbrev Row := List PI
structure Sh where
  z : Row
  h : List Row
def encR (r : Rl) : PyData := .tuple [encN r.res, .str r.word, encL r.parts]
def encRow (r : Row) : PyData := .tuple (r.map encP)
def encSh (s : Sh) : PyData := .tuple [encRow s.z, .tuple (s.h.map encRow)]
def Rl.sym (r : Rl) : Sym := (r.word, r.parts.length)
def at2 (r : Row) (i : Nat) : PI := r.getD i (0, 0)
def row2 (h : List Row) (i : Nat) : Row := h.getD i []
theorem at2_get {r : Row} {i : Nat} (h : i < r.length) : r[i]? = some (at2 r i) := by
  unfold at2; rw [List.getD_eq_getElem?_getD, List.getElem?_eq_getElem h]; rfl
theorem row2_get {r : List Row} {i : Nat} (h : i < r.length) : r[i]? = some (row2 r i) := by
  unfold row2; rw [List.getD_eq_getElem?_getD, List.getElem?_eq_getElem h]; rfl
/-- the rows of the parts beneath, at the parts of the rule -/
def below (lower : List Row) (ps : List Nat) : List PI := (lower.zip ps).map fun x => at2 x.1 x.2
def boundW (s : Sym) (size : Int) (z : Row) (lower : List Row) (r : Rl) : PI :=
  if r.sym = s then addPs (0, 1) (below lower r.parts) else addPs (size + 1, 1) (r.parts.map (at2 z))
def sp_keeps_floor : PSp := fun qs Qd _ => ∃ (r : Rl) (s : Sym) (size : Int) (pair : PI) (z : Row) (lower : List Row), qs = [encR r, encS s, .int size, encP pair, encRow z, .list (lower.map encRow)] ∧
  PyData.strOk r.word = true ∧ PyData.strOk s.1 = true ∧ r.parts.length ≤ 1000 ∧ (∀ p ∈ r.parts, p < z.length ∧ ∀ row ∈ lower, p < row.length) ∧ Qd (.bool (!pLt (boundW s size z lower r) pair))
theorem lc_zip {α : Type} {te : DE} {i j : Nat} {δw : Sd} {stay : Mp → Prop} {M : Mp} {Q : DK} {items : List D} (l : List α) (e1 e2 f : α → PyData) (e : items = l.map fun a => D.dat (.tuple [e1 a, e2 a])) (hs : stay M)
    (ht : ∀ a ∈ l, ∀ K : DK, K (.dat (f a)) M → te ((δw.set i (some (.dat (e1 a)))).set j (some (.dat (e2 a)))) M K) (q : Q (.dat (.list (l.map f))) M) :
    goLc (dTupG 2 (gsCons (dName i) (gsCons (dName j) gsNil))) dYes te stay δw items M fun acc M2 => finL acc M2 Q :=
  lc_pure l (fun a => D.dat (.tuple [e1 a, e2 a])) (fun a => .dat (f a)) e hs (fun a ha K k => ⟨rfl, rfl, ht a ha K k⟩) (finL_map f _ q) fun a ha K1 K2 hK h => ⟨rfl, h.2.1, hK _ _ h.2.2⟩
theorem paired_map {α β : Type} (f : α → PyData) (g : β → PyData) : ∀ (l : List α) (m : List β), paired (l.map f) (m.map g) = (l.zip m).map fun x => D.dat (.tuple [f x.1, g x.2])
  | [], _ => rfl
  | _ :: _, [] => rfl
  | a :: l, b :: m => by
    have h := paired_map f g l m
    unfold paired at h ⊢
    rw [List.map_cons, List.map_cons, List.zip_cons_cons, List.map_cons, h, List.zip_cons_cons, List.map_cons]
theorem len_keeps_floor {a b c} (h : sp_keeps_floor a b c) : a.length = 6 := by
  obtain ⟨r, s, size, pair, z, lower, rfl, _⟩ := h; rfl
def t_keeps_floor : DS :=
  dSeq (dAsg (dVar 0) (dTupG 3 (gsCons (dName 6) (gsCons (dName 7) (gsCons (dName 8) (gsNil)))))) (dSeq (dIfS (dB (dOp eqD (dTup (aCons (dVar 7) (aCons (dCB lenC (aCons (dVar 8) (aNil))) (aNil)))) (dVar 1))) (dRet (dOp leD (dVar 3) (dCallP sp_added_pairs (aCons (dTup (aCons (dC (.int 0)) (aCons (dC (.int 1)) (aNil)))) (aCons (dLc (iZipD (dVar 5) (dVar 8)) (dTupG 2 (gsCons (dName 10) (gsCons (dName 9) (gsNil)))) (dYes) (dOp ixD (dVar 10) (dVar 9)) [10, 9] finL) (aNil)))))) (dNext)) (dRet (dOp leD (dVar 3) (dCallP sp_added_pairs (aCons (dTup (aCons (dOp addD (dVar 2) (dC (.int 1))) (aCons (dC (.int 1)) (aNil)))) (aCons (dLc (iSeq (dVar 8)) (dName 9) (dYes) (dOp ixD (dVar 4) (dVar 9)) [9] finL) (aNil)))))))
theorem law_keeps_floor {a b c} (h : sp_keeps_floor a b c) : t_keeps_floor { nx := fun _ _ => b .none, rt := fun d M => ∃ r, viewD M d = some r ∧ b r } (startD ["rule", "symbol", "size", "pair", "row", "lower", "result", "word", "parts", "part", "table"] (a.map .dat)) M0 := by
  obtain ⟨r, s, size, pair, z, lower, rfl, ow, os, hl, hp, q⟩ := h
  refine ⟨rfl, rfl, _, rfl, ok16 rfl, shaped_sym ow _, shaped_sym os _, ?_⟩
  have e0 : ((r.parts.map encN).map D.dat).length = r.parts.length := by rw [List.length_map, List.length_map]
  rw [e0, eqv_sym]
  refine if_b (fun e => ?_) fun e => ?_
  · have e' : r.sym = s := of_decide_eq_true e
    rw [show boundW s size z lower r = addPs (0, 1) (below lower r.parts) by unfold boundW; rw [if_pos e']] at q
    refine ⟨ok16 rfl, ?_, ?_⟩
    · unfold paired; simp; omega
    refine lc_zip (lower.zip r.parts) (fun x => encRow x.1) (fun x => encN x.2) (fun x => encP (at2 x.1 x.2)) (paired_map _ _ _ _) trivial (fun x h K k => ⟨_, _, rfl, atI_map (at2_get ((hp x.2 (List.of_mem_zip h).2).2 x.1 (List.of_mem_zip h).1)), k⟩) ?_
    refine ⟨_, rfl, (0, 1), below lower r.parts, by unfold below; rw [List.map_map]; rfl, by unfold below; simp; omega, cmp_pair _ _, _, rfl, ?_⟩
    rw [ltT_pair]
    exact q
  · have e' : r.sym ≠ s := of_decide_eq_false e
    rw [show boundW s size z lower r = addPs (size + 1, 1) (r.parts.map (at2 z)) by unfold boundW; rw [if_neg e']] at q
    refine ⟨ok16 rfl, _, rfl, by rw [e0]; omega, lc_dat r.parts encN (fun p => encP (at2 z p)) rfl (fun p h K k => ⟨_, _, rfl, atI_map (at2_get (hp p h).1), k⟩) ?_⟩
    refine ⟨_, rfl, (size + 1, 1), r.parts.map (at2 z), by rw [List.map_map]; rfl, by rw [List.length_map]; exact hl, cmp_pair _ _, _, rfl, ?_⟩
    rw [ltT_pair]
    exact q
end DL
set_option Elab.async false
set_option linter.all false
set_option maxRecDepth 100000
set_option maxHeartbeats 4000000
namespace DL
open PySem PySem.Spec PyProof.Rows L2
/-! PL7: the law's bound. -/
def encQ (b : Bool) (ps : List PyData) : PyData := if b = true then .tuple ps else .list ps
def encRowQ (b : Bool) (r : Row) : PyData := encQ b (r.map encP)
def encHQ (b : Bool) (h : List Row) : PyData := encQ b (h.map (encRowQ b))
theorem seq_encQ {b : Bool} {ps : List PyData} {M : Mp} : seqOf M (.dat (encQ b ps)) = some (ps.map .dat) := by cases b <;> rfl
/-- the bound at a node -/
def boundT (t : Tr) (z : Row) (h : List Row) (k : Nat) (r : Rl) : PI := boundW ((t[k]?).getD ("", 0)) ((EN t k - k : Nat) : Int) z ((BN t k).map (row2 h)) r
structure RlFit (n : Nat) (r : Rl) : Prop where
  word : PyData.strOk r.word = true
  few : r.parts.length ≤ 1000
  res : r.res < n
  parts : ∀ p ∈ r.parts, p < n
def TrOk (t : Tr) : Prop := Wf t ∧ t.length ≤ 1000 ∧ ∀ s ∈ t, PyData.strOk s.1 = true
def sp_law_bound : PSp := fun qs Qd _ => ∃ (b : Bool) (t : Tr) (k n : Nat) (r : Rl) (z : Row) (h : List Row), qs = [encT t, .list (tal t.length fun k => encN (EN t k)), encN k, encR r, encRowQ b z, encHQ b h] ∧
  TrOk t ∧ k < t.length ∧ RlFit n r ∧ z.length = n ∧ h.length = t.length ∧ (∀ row ∈ h, row.length = n) ∧ Qd (encP (boundT t z h k r))
theorem append_k {a : Addr} {M : Mp} {xs : List D} {d : D} {Q : DK} (h : M a = some (.lst xs)) (hl : xs.length < 16777216) (q : Q (.dat .none) (updM M a (.lst (xs ++ [d])))) : appendM (.ref a) [d] M Q := ⟨xs, h, hl, q⟩
theorem below_take (h : List Row) (l : List Nat) (ps : List Nat) (m : Nat) (hm : m < l.length) (hp : m < ps.length) : ((l.take (m + 1)).map (row2 h)).zip (ps.take (m + 1)) = ((l.take m).map (row2 h)).zip (ps.take m) ++ [(row2 h l[m], ps[m])] := by
  rw [List.take_add_one, List.take_add_one, List.getElem?_eq_getElem hm, List.getElem?_eq_getElem hp, List.map_append, List.zip_append (by simp; omega)]
  rfl
theorem optAll_cons {α : Type} {f : D → Option α} {d : D} {ds : List D} {p : α} {ps : List α} (h1 : f d = some p) (h2 : optAll f ds = some ps) : optAll f (d :: ds) = some (p :: ps) := by rw [optAll, h1, h2]
theorem getD_lt {l : List Nat} {i d : Nat} (h : i < l.length) : l.getD i d = l[i] := by rw [List.getD_eq_getElem?_getD, List.getElem?_eq_getElem h]; rfl
theorem len_law_bound {a b c} (h : sp_law_bound a b c) : a.length = 6 := by
  obtain ⟨b, t, k, n, r, z, h, rfl, _⟩ := h; rfl
def t_law_bound : DS :=
  dSeq (dIfS (dB (dOp neD (dTup (aCons (dOp ixD (dVar 3) (dC (.int 1))) (aCons (dCB lenC (aCons (dOp ixD (dVar 3) (dC (.int 2))) (aNil))) (aNil)))) (dOp ixD (dVar 0) (dVar 2)))) (dRet (dCallP sp_law_sum (aCons (dTup (aCons (dOp addD (dOp subD (dOp ixD (dVar 1) (dVar 2)) (dVar 2)) (dC (.int 1))) (aCons (dC (.int 1)) (aNil)))) (aCons (dLc (iSeq (dOp ixD (dVar 3) (dC (.int 2)))) (dName 6) (dYes) (dOp ixD (dVar 4) (dVar 6)) [6] finL) (aNil))))) (dNext)) (dSeq (dAsg (dLstM (aNil)) (dName 7)) (dSeq (dAsg (dOp addD (dVar 2) (dC (.int 1))) (dName 8)) (dSeq (dFor (iSeq (dOp ixD (dVar 3) (dC (.int 2)))) (dName 6) (dSeq (dDrop (dMeth appendM (dVar 7) (aCons (dOp ixD (dOp ixD (dVar 5) (dVar 8)) (dVar 6)) (aNil)))) (dAsg (dOp ixD (dVar 1) (dVar 8)) (dName 8)))) (dRet (dCallB sp_law_sum (aCons (dTup (aCons (dC (.int 0)) (aCons (dC (.int 1)) (aNil)))) (aCons (dVar 7) (aNil))))))))
theorem law_law_bound {a b c} (h : sp_law_bound a b c) : t_law_bound { nx := fun _ _ => b .none, rt := fun d M => ∃ r, viewD M d = some r ∧ b r } (startD ["_law_tree_here", "_law_ends_here", "_law_node", "_law_rule", "_law_z", "_law_h", "_law_part", "_law_rows", "_law_lower"] (a.map .dat)) M0 := by
  obtain ⟨fl, t, k, n, r, z, hh, rfl, ⟨w, tl, to⟩, hk, rf, hz, hhl, hrow, q⟩ := h
  have e0 : ((r.parts.map encN).map D.dat).length = r.parts.length := by rw [List.length_map, List.length_map]
  have es : t[k]? = some t[k] := List.getElem?_eq_getElem hk
  have q' : b (encP (boundW t[k] ((EN t k - k : Nat) : Int) z ((BN t k).map (row2 hh)) r)) := by
    unfold boundT at q; rw [es] at q; exact q
  refine ⟨_, _, rfl, rfl, _, _, rfl, rfl, _, rfl, ok16 rfl, _, _, rfl, atI_map es, shaped_sym rf.word _, shaped_sym (to _ (List.getElem_mem hk)) _, ?_⟩
  rw [e0, eqv_sym]
  have hE := EN_le hk
  refine if_b (fun e => ?_) fun e => ?_
  · have e' : r.sym ≠ t[k] := of_decide_eq_false (Bool.not_eq_true' _ |>.mp e)
    rw [show boundW t[k] ((EN t k - k : Nat) : Int) z ((BN t k).map (row2 hh)) r = addPs (((EN t k - k : Nat) : Int) + 1, 1) (r.parts.map (at2 z)) by unfold boundW; rw [if_neg e']] at q'
    refine ⟨_, _, rfl, atI_nat (tal_getD hk), ok16 rfl, _, _, rfl, rfl, _, rfl, by rw [e0]; have := rf.few; omega, lc_dat r.parts encN (fun p => encP (at2 z p)) rfl (fun p h K k => ⟨_, _, seq_encQ, atI_map (at2_get (by rw [hz]; exact rf.parts p h)), k⟩) ?_⟩
    refine ⟨_, rfl, (((EN t k - k : Nat) : Int) + 1, 1), r.parts.map (at2 z), ?_, by rw [List.length_map]; exact rf.few, _, rfl, q'⟩
    rw [List.map_map, show ((EN t k - k : Nat) : Int) = ((EN t k : Nat) : Int) - ((k : Nat) : Int) by omega]
    rfl
  · have e' : r.sym = t[k] := of_decide_eq_true (Bool.not_eq_false' _ |>.mp e)
    rw [show boundW t[k] ((EN t k - k : Nat) : Int) z ((BN t k).map (row2 hh)) r = addPs (0, 1) (below ((BN t k).map (row2 hh)) r.parts) by unfold boundW; rw [if_pos e']] at q'
    have hw := w k _ es
    have em : many t k = t[k].2 := many_at es
    have hm : r.parts.length = t[k].2 := by rw [← e']; rfl
    have hb : (BN t k) = (RT t (k + 1)).take r.parts.length := by unfold BN; rw [em, hm]
    refine ⟨ok16 rfl, fun p hp => ⟨_, _, rfl, rfl, _, rfl, ?_⟩⟩
    refine goFor_ind (fun p => D.dat (encN p)) (fun l δ M => ∃ o6 m, m ≤ r.parts.length ∧ l = r.parts.drop m ∧ δ = [some (.dat (encT t)), some (.dat (.list (tal t.length fun k => encN (EN t k)))), some (.dat (encN k)), some (.dat (encR r)), some (.dat (encRowQ fl z)), some (.dat (encHQ fl hh)), o6, some (.ref p), some (.dat (encN ((RT t (k + 1)).getD m t.length)))] ∧
      M p = some (.lst (((below (((RT t (k + 1)).take m).map (row2 hh)) (r.parts.take m)).map encP).map D.dat))) ?_ ?_ r.parts (map_dat _ _) ⟨none, 0, Nat.zero_le _, rfl, ?_, updM_same⟩
    · rintro δ M ⟨o6, m, hm1, hm2, rfl, hM⟩
      have hm3 : r.parts.length ≤ m := List.drop_eq_nil_iff.mp hm2.symm
      have hm4 : m = r.parts.length := by omega
      subst hm4
      rw [List.take_length, ← hb] at hM
      refine ⟨by show some ((r.parts.map encN).map D.dat) = _; rw [List.map_map], ok16 rfl, [encP (0, 1), .list ((below ((BN t k).map (row2 hh)) r.parts).map encP)], optAll_cons rfl (optAll_cons (view_lst hM) rfl), (0, 1), _, rfl, ?_, rfl, _, rfl, q'⟩
      have := rf.few
      unfold below; simp; omega
    · rintro p l δ M K ⟨o6, m, hm1, hm2, rfl, hM⟩ hK
      have hlt : m < r.parts.length := by
        rcases Nat.lt_or_ge m r.parts.length with z | z
        · exact z
        · rw [List.drop_of_length_le z] at hm2; cases hm2
      rw [List.drop_eq_getElem_cons hlt] at hm2
      obtain ⟨rfl, rfl⟩ := List.cons.inj hm2
      have hlt2 : m < (RT t (k + 1)).length := by omega
      have eg := List.getElem?_eq_getElem hlt2
      have hR := RT_mem (List.mem_of_getElem? eg)
      have hpn := rf.parts _ (List.getElem_mem hlt)
      rw [getD_lt hlt2]
      have hrl : (row2 hh (RT t (k + 1))[m]).length = n := hrow _ (List.mem_of_getElem? (row2_get (by omega)))
      refine ⟨by show some ((r.parts.map encN).map D.dat) = _; rw [List.map_map], ⟨_, hM⟩, _, _, seq_encQ, atI_map (row2_get (by omega)), _, _, seq_encQ, atI_map (at2_get (i := r.parts[m]) (by omega)), _, hM, ?_, _, _, rfl, atI_nat (tal_getD hR.2), ?_⟩
      · have := rf.few
        unfold below; simp; omega
      · rw [EN_get eg, headD_drop]
        refine hK _ _ ⟨_, m + 1, hlt, rfl, rfl, ?_⟩
        rw [updM_same]
        unfold below
        rw [below_take hh _ _ m hlt2 hlt, List.map_append, List.map_append, List.map_append]
        rfl
    · rw [← headD_drop, List.drop_zero, RT_head (by omega)]
      rfl
end DL
set_option Elab.async false
set_option linter.all false
set_option maxRecDepth 100000
set_option maxHeartbeats 4000000
namespace DL
open PySem PySem.Spec PyProof.Rows L2
/-! PL8: judging a sheet. -/
structure Gr where
  n : Nat
  starts : List Nat
  rules : List Rl
def encG (g : Gr) : PyData := .tuple [encN g.n, encL g.starts, .tuple (g.rules.map encR)]
structure GrOk (g : Gr) : Prop where
  few : g.n ≤ 1000
  rl : g.rules.length ≤ 1000
  rf : ∀ r ∈ g.rules, RlFit g.n r
  sl : g.starts.length ≤ 1000
  s0 : g.starts ≠ []
  st : ∀ s ∈ g.starts, s < g.n
structure ShOk (n m : Nat) (s : Sh) : Prop where
  z : s.z.length = n
  h : s.h.length = m
  r : ∀ row ∈ s.h, row.length = n
def ruleBad (z : Row) (r : Rl) : Bool := pLt (addPs (1, 1) (r.parts.map (at2 z))) (at2 z r.res)
def floorBad (t : Tr) (s : Sh) (k : Nat) (r : Rl) : Bool := pLt (boundT t s.z s.h k r) (at2 (row2 s.h k) r.res)
def firstBad (f : Nat → Bool) : Nat → Nat → Option Nat
  | _, 0 => none
  | k, m + 1 => if f k = true then some k else firstBad f (k + 1) m
inductive Vd where
  | rule (k : Nat)
  | floor (k : Nat)
  | told (p : PI)
def minP : List PI → PI
  | [] => (0, 0)
  | [p] => p
  | p :: q :: l => if pLt (minP (q :: l)) p = true then minP (q :: l) else p
def ruleAt (g : Gr) (z : Row) (k : Nat) : Bool := (g.rules[k]?).any (ruleBad z)
def floorAt (g : Gr) (t : Tr) (s : Sh) (k : Nat) : Bool := g.rules.any (floorBad t s k)
def judge (g : Gr) (t : Tr) (s : Sh) : Vd := match firstBad (ruleAt g s.z) 0 g.rules.length with
  | some k => .rule k
  | none => match firstBad (floorAt g t s) 0 t.length with
    | some k => .floor k
    | none => .told (minP (g.starts.map (at2 (row2 s.h 0))))
theorem minP_spec : ∀ l : List PI, l ≠ [] → minP l ∈ l ∧ ∀ q ∈ l, pLt q (minP l) = false
  | [], h => absurd rfl h
  | [p], _ => ⟨List.mem_cons_self, fun q hq => by
    rcases List.mem_cons.mp hq with rfl | hq
    · exact pLt_irr _
    · cases hq⟩
  | p :: q :: l, _ => by
    obtain ⟨h1, h2⟩ := minP_spec (q :: l) (by intro h; cases h)
    unfold minP
    cases e : pLt (minP (q :: l)) p with
    | true =>
      rw [if_pos rfl]
      refine ⟨List.mem_cons_of_mem _ h1, fun x hx => ?_⟩
      rcases List.mem_cons.mp hx with rfl | hx
      · exact pLt_asy e
      · exact h2 x hx
    | false =>
      rw [if_neg Bool.false_ne_true]
      refine ⟨List.mem_cons_self, fun x hx => ?_⟩
      rcases List.mem_cons.mp hx with rfl | hx
      · exact pLt_irr _
      · exact pLt_tr (h2 x hx) e
theorem pLt_eq {p q : PI} (h1 : pLt p q = false) (h2 : pLt q p = false) : p = q := by
  unfold pLt at *
  have h1 := of_decide_eq_false h1
  have h2 := of_decide_eq_false h2
  exact Prod.ext (by omega) (by omega)
theorem minP_uniq {l : List PI} {r : PI} (h0 : l ≠ []) (h1 : r ∈ l) (h2 : ∀ q ∈ l, pLt q r = false) : r = minP l := by
  obtain ⟨h3, h4⟩ := minP_spec l h0
  exact pLt_eq (h4 r h1) (h2 _ h3)
/-- min(..) of pairs -/
theorem min_k {l : List PI} {M : Mp} {Q : DK} (h0 : l ≠ []) (q : Q (.dat (encP (minP l))) M) : minC [.dat (.list (l.map encP))] M Q :=
  ⟨l, rfl, h0, fun r h1 h2 => by rw [minP_uniq h0 h1 h2]; exact q⟩
/-- a loop over what enumerate gives -/
theorem goFor_num {α : Type} {g : DG} {tb : DS} {E : DEnds} {stay : Mp → Prop} (l : List α) (f : α → PyData) (I : Nat → Sd → Mp → Prop) (h0 : ∀ δ M, I l.length δ M → stay M ∧ E.nx δ M)
    (hs : ∀ k a δ M (K : Sd → Mp → Prop), l[k]? = some a → I k δ M → (∀ δ M, I (k + 1) δ M → K δ M) → stay M ∧ g (.dat (.tuple [.int (k : Nat), f a])) δ M fun δ2 M2 => tb { nx := K, rt := E.rt, ct := K, bk := E.nx, xn := E.xn } δ2 M2)
    {δ : Sd} {M : Mp} (h : I 0 δ M) : goFor g tb E stay (numbered (l.map f)) δ M := by
  unfold numbered
  have go : ∀ (m : List α) (k : Nat), k + m.length = l.length → (∀ j, m[j]? = l[k + j]?) → ∀ {δ M}, I k δ M → goFor g tb E stay (((m.map f).zipIdx k).map fun (z : PyData × Nat) => D.dat (.tuple [.int (z.2 : Int), z.1])) δ M := by
    intro m
    induction m with
    | nil =>
      intro k hk e δ M h
      have e' : k = l.length := hk
      subst e'
      exact h0 _ _ h
    | cons a m ih =>
      intro k hk e δ M h
      exact hs k a δ M _ (by have := e 0; rw [List.getElem?_cons_zero, Nat.add_zero] at this; exact this.symm) h fun δ' M' h' => ih (k + 1) (by rw [List.length_cons] at hk; omega) (fun j => by have := e (j + 1); rw [List.getElem?_cons_succ] at this; rw [this]; congr 1; omega) h'
  exact go l 0 (Nat.zero_add _) (fun j => by rw [Nat.zero_add]) h
def sp_lets_floors (CN CI : Addr) : PSp := fun qs Qd Ed => ∃ (g : Gr) (td thing : PyData), qs = [encG g, td, thing] ∧ fit td = true ∧ fit thing = true ∧ GrOk g ∧
  ((isTreeP td = false ∧ Ed ⟨CN, "tree", -1⟩) ∨ (isTreeP td = true ∧ ∃ t : Tr, td = encT t ∧ TrOk t ∧ t ≠ [] ∧ ((isSheetP g.n t.length thing = false ∧ Ed ⟨CI, "shape", -1⟩) ∨
    (isSheetP g.n t.length thing = true ∧ ∃ s : Sh, thing = encSh s ∧ ShOk g.n t.length s ∧ (match judge g t s with
      | .rule k => Ed ⟨CI, "rule", (k : Nat)⟩
      | .floor k => Ed ⟨CI, "floor", (k : Nat)⟩
      | .told p => Qd (encP p))))))
def tagP (w : Str) (d : PyData) : PyData := .tuple [.str w, d]
def sp_law_judged : PSp := fun qs Qd _ => ∃ (g : Gr) (t : Tr) (thing : PyData), qs = [encG g, encT t, thing] ∧ fit thing = true ∧ GrOk g ∧ TrOk t ∧ t ≠ [] ∧ ((isSheetP g.n t.length thing = false ∧ Qd (tagP "shape" (.int (-1)))) ∨
    (isSheetP g.n t.length thing = true ∧ ∃ s : Sh, thing = encSh s ∧ ShOk g.n t.length s ∧ (match judge g t s with
      | .rule k => Qd (tagP "rule" (encN k))
      | .floor k => Qd (tagP "floor" (encN k))
      | .told p => Qd (tagP "told" (encP p)))))
theorem firstBad_step {f : Nat → Bool} {k n : Nat} (h : k < n) : firstBad f k (n - k) = if f k = true then some k else firstBad f (k + 1) (n - (k + 1)) := by
  obtain ⟨m, e⟩ : ∃ m, n - k = m + 1 := ⟨n - k - 1, by omega⟩
  rw [e, show n - (k + 1) = m by omega, firstBad]
theorem firstBad_end {f : Nat → Bool} {n : Nat} : firstBad f n (n - n) = none := by rw [Nat.sub_self, firstBad]
theorem len_lets_floors {C_NotUsable : Addr} {C_InvalidPaper : Addr} {a b c} (h : (sp_lets_floors C_NotUsable C_InvalidPaper) a b c) : a.length = 3 := by
  obtain ⟨g, td, th, rfl, _⟩ := h; rfl
def t_lets_floors (C_NotUsable : Addr) (C_InvalidPaper : Addr) : DS :=
  dSeq (dIfS (dNot (dB (dCallP sp_is_tree (aCons (dVar 1) (aNil))))) (dRaise C_NotUsable (aCons (dC (.str (Str.ofString "tree"))) (aCons (dUn negD (dC (.int 1))) (aNil)))) (dNext)) (dSeq (dAsg (dVar 0) (dTupG 3 (gsCons (dName 3) (gsCons (dName 4) (gsCons (dName 5) (gsNil)))))) (dSeq (dIfS (dNot (dB (dCallP sp_is_sheet (aCons (dVar 2) (aCons (dVar 3) (aCons (dCB lenC (aCons (dVar 1) (aNil))) (aNil))))))) (dRaise C_InvalidPaper (aCons (dC (.str (Str.ofString "shape"))) (aCons (dUn negD (dC (.int 1))) (aNil)))) (dNext)) (dSeq (dAsg (dVar 2) (dTupG 2 (gsCons (dName 6) (gsCons (dName 7) (gsNil))))) (dSeq (dFor (iEnumD (dVar 5)) (dTupG 2 (gsCons (dName 8) (gsCons (dTupG 3 (gsCons (dName 9) (gsCons (dName 10) (gsCons (dName 11) (gsNil))))) (gsNil)))) (dIfS (dB (dOp gtD (dOp ixD (dVar 6) (dVar 9)) (dCallP sp_added_pairs (aCons (dTup (aCons (dC (.int 1)) (aCons (dC (.int 1)) (aNil)))) (aCons (dLc (iSeq (dVar 11)) (dName 18) (dYes) (dOp ixD (dVar 6) (dVar 18)) [18] finL) (aNil)))))) (dRaise C_InvalidPaper (aCons (dC (.str (Str.ofString "rule"))) (aCons (dVar 8) (aNil)))) (dNext))) (dSeq (dAsg (dCallP sp_nodes_beneath (aCons (dVar 1) (aNil))) (dName 12)) (dSeq (dAsg (dCallP sp_piece_sizes (aCons (dVar 12) (aNil))) (dName 13)) (dSeq (dFor (iEnumD (dVar 1)) (dTupG 2 (gsCons (dName 14) (gsCons (dName 15) (gsNil)))) (dSeq (dAsg (dLc (iSeq (dOp ixD (dVar 12) (dVar 14))) (dName 18) (dYes) (dOp ixD (dVar 7) (dVar 18)) [18] finL) (dName 16)) (dFor (iSeq (dVar 5)) (dName 17) (dIfS (dNot (dB (dCallP sp_keeps_floor (aCons (dVar 17) (aCons (dVar 15) (aCons (dOp ixD (dVar 13) (dVar 14)) (aCons (dOp ixD (dOp ixD (dVar 7) (dVar 14)) (dOp ixD (dVar 17) (dC (.int 0)))) (aCons (dVar 6) (aCons (dVar 16) (aNil)))))))))) (dRaise C_InvalidPaper (aCons (dC (.str (Str.ofString "floor"))) (aCons (dVar 14) (aNil)))) (dNext))))) (dRet (dCB minC (aCons (dLc (iSeq (dVar 4)) (dName 19) (dYes) (dOp ixD (dOp ixD (dVar 7) (dC (.int 0))) (dVar 19)) [19] finL) (aNil)))))))))))
theorem law_lets_floors {C_NotUsable : Addr} {C_InvalidPaper : Addr} {a b c} (h : (sp_lets_floors C_NotUsable C_InvalidPaper) a b c) : t_lets_floors C_NotUsable C_InvalidPaper { nx := fun _ _ => b .none, rt := fun d M => ∃ r, viewD M d = some r ∧ b r, xn := fun x _ _ => c x } (startD ["driven", "tree", "thing", "names", "starts", "rules", "z", "h", "number", "result", "word", "parts", "beneath", "sizes", "node", "symbol", "lower", "rule", "part", "start"] (a.map .dat)) M0 := by
  obtain ⟨g, td, thing, rfl, ftd, fth, gk, hh⟩ := h
  refine ⟨_, rfl, td, rfl, ftd, ?_⟩
  rcases hh with ⟨e, q⟩ | ⟨e, t, rfl, tk, t0, hh⟩
  · rw [e]
    exact q
  rw [e]
  have e0 : ((t.map encS).map D.dat).length = t.length := by rw [List.length_map, List.length_map]
  refine ⟨rfl, rfl, _, rfl, _, rfl, thing, g.n, t.length, by rw [e0]; rfl, fth, ?_⟩
  rcases hh with ⟨e, q⟩ | ⟨e, s, rfl, sk, hh⟩
  · rw [e]
    exact q
  rw [e]
  obtain ⟨w, tl, to⟩ := tk
  have hj : (match firstBad (ruleAt g s.z) 0 (g.rules.length - 0) with
    | some k => c ⟨C_InvalidPaper, "rule", (k : Nat)⟩
    | none => match firstBad (floorAt g t s) 0 (t.length - 0) with
      | some k => c ⟨C_InvalidPaper, "floor", (k : Nat)⟩
      | none => b (encP (minP (g.starts.map (at2 (row2 s.h 0)))))) := by
    unfold judge at hh
    rw [Nat.sub_zero, Nat.sub_zero]
    cases e1 : firstBad (ruleAt g s.z) 0 g.rules.length with
    | some k => rw [e1] at hh; exact hh
    | none =>
      rw [e1] at hh
      cases e2 : firstBad (floorAt g t s) 0 t.length with
      | some k => rw [e2] at hh; exact hh
      | none => rw [e2] at hh; exact hh
  clear hh
  refine ⟨rfl, rfl, goFor_num g.rules encR (fun k δ M => M = M0 ∧ ∃ o8 o9 o10 o11, δ = [some (.dat (encG g)), some (.dat (encT t)), some (.dat (encSh s)), some (.dat (encN g.n)), some (.dat (encL g.starts)), some (.dat (.tuple (g.rules.map encR))), some (.dat (encRow s.z)), some (.dat (.tuple (s.h.map encRow))), o8, o9, o10, o11, none, none, none, none, none, none, none, none] ∧
    (match firstBad (ruleAt g s.z) k (g.rules.length - k) with
    | some k => c ⟨C_InvalidPaper, "rule", (k : Nat)⟩
    | none => match firstBad (floorAt g t s) 0 (t.length - 0) with
      | some k => c ⟨C_InvalidPaper, "floor", (k : Nat)⟩
      | none => b (encP (minP (g.starts.map (at2 (row2 s.h 0))))))) ?_ ?_ ⟨rfl, none, none, none, none, rfl, hj⟩⟩
  · clear hj
    rintro δ M ⟨rfl, o8, o9, o10, o11, rfl, hj⟩
    rw [firstBad_end] at hj
    refine ⟨trivial, _, rfl, t, rfl, w, tl, _, rfl, t, rfl, w, tl, ?_⟩
    refine goFor_num t encS (fun k δ M => M = M0 ∧ ∃ o14 o15 o16 o17, δ = [some (.dat (encG g)), some (.dat (encT t)), some (.dat (encSh s)), some (.dat (encN g.n)), some (.dat (encL g.starts)), some (.dat (.tuple (g.rules.map encR))), some (.dat (encRow s.z)), some (.dat (.tuple (s.h.map encRow))), o8, o9, o10, o11, some (.dat (.list (tal t.length fun k => encL (BN t k)))), some (.dat (.list (tal t.length fun k => encN (EN t k - k)))), o14, o15, o16, o17, none, none] ∧
      (match firstBad (floorAt g t s) k (t.length - k) with
        | some k => c ⟨C_InvalidPaper, "floor", (k : Nat)⟩
        | none => b (encP (minP (g.starts.map (at2 (row2 s.h 0))))))) ?_ ?_ ⟨rfl, none, none, none, none, rfl, hj⟩
    · clear hj
      rintro δ M ⟨rfl, o14, o15, o16, o17, rfl, hj⟩
      rw [firstBad_end] at hj
      have t1 : 0 < t.length := List.length_pos_iff.mpr t0
      refine ⟨trivial, _, rfl, by rw [List.length_map, List.length_map]; have := gk.sl; omega, lc_dat g.starts encN (fun p => encP (at2 (row2 s.h 0) p)) rfl (fun p h K k => ⟨_, _, rfl, atI_map (i := 0) (row2_get (by rw [sk.h]; exact t1)), _, _, rfl, atI_map (at2_get (by rw [sk.r _ (List.mem_of_getElem? (row2_get (r := s.h) (i := 0) (by rw [sk.h]; exact t1)))]; exact gk.st p h)), k⟩) ?_⟩
      have em : (g.starts.map fun p => encP (at2 (row2 s.h 0) p)) = (g.starts.map (at2 (row2 s.h 0))).map encP := by rw [List.map_map]; rfl
      rw [em]
      exact min_k (by simp [gk.s0]) ⟨_, rfl, hj⟩
    · clear hj
      rintro k sy δ M K er ⟨rfl, o14, o15, o16, o17, rfl, hj⟩ hK
      have hk := (List.getElem?_eq_some_iff.mp er).1
      rw [firstBad_step hk] at hj
      have hrow : (row2 s.h k).length = g.n := sk.r _ (List.mem_of_getElem? (row2_get (by rw [sk.h]; exact hk)))
      refine ⟨trivial, rfl, rfl, ?_⟩
      refine ⟨_, _, rfl, atI_nat (tal_getD hk), _, rfl, ?_, lc_dat (BN t k) encN (fun p => encRow (row2 s.h p)) rfl (fun p h K k => ⟨_, _, rfl, atI_map (row2_get (by rw [sk.h]; exact (BN_mem h).2)), k⟩) ?_⟩
      · have hb := RT_len t (k + 1)
        rw [List.length_map, List.length_map]
        unfold BN
        rw [List.length_take]
        omega
      have eb : ∀ r ∈ g.rules, floorBad t s k r = pLt (boundW sy ((EN t k - k : Nat) : Int) s.z ((BN t k).map (row2 s.h)) r) (at2 (row2 s.h k) r.res) := by
        intro r hr
        unfold floorBad boundT
        rw [er]; rfl
      refine ⟨_, rfl, goFor_ind (fun r => D.dat (encR r)) (fun l δ M => M = M0 ∧ (∀ r ∈ l, r ∈ g.rules) ∧ ∃ o17, δ = [some (.dat (encG g)), some (.dat (encT t)), some (.dat (encSh s)), some (.dat (encN g.n)), some (.dat (encL g.starts)), some (.dat (.tuple (g.rules.map encR))), some (.dat (encRow s.z)), some (.dat (.tuple (s.h.map encRow))), o8, o9, o10, o11, some (.dat (.list (tal t.length fun k => encL (BN t k)))), some (.dat (.list (tal t.length fun k => encN (EN t k - k)))), some (.dat (encN k)), some (.dat (encS sy)), some (.dat (.list ((BN t k).map fun p => encRow (row2 s.h p)))), o17, none, none] ∧
        (if l.any (floorBad t s k) = true then c ⟨C_InvalidPaper, "floor", (k : Nat)⟩ else match firstBad (floorAt g t s) (k + 1) (t.length - (k + 1)) with
          | some k => c ⟨C_InvalidPaper, "floor", (k : Nat)⟩
          | none => b (encP (minP (g.starts.map (at2 (row2 s.h 0))))))) ?_ ?_ g.rules (map_dat _ _) ⟨rfl, fun r h => h, o17, rfl, ?_⟩⟩
      · rintro δ M ⟨rfl, _, o17, rfl, hj⟩
        refine ⟨by show some _ = some _; rw [List.map_map], hK _ _ ⟨rfl, _, _, _, _, rfl, hj⟩⟩
      · rintro r l δ M K2 ⟨rfl, hl, o17, rfl, hj⟩ hK2
        have hr := hl r List.mem_cons_self
        have rf := gk.rf r hr
        refine ⟨by show some _ = some _; rw [List.map_map], _, _, rfl, atI_nat (tal_getD hk), _, _, rfl, atI_map (row2_get (by rw [sk.h]; exact hk)), _, _, rfl, rfl, _, _, rfl, atI_map (at2_get (i := r.res) (by rw [hrow]; exact rf.res)), _, rfl, r, sy, ((EN t k - k : Nat) : Int), at2 (row2 s.h k) r.res, s.z, (BN t k).map (row2 s.h), ?_, rf.word, to _ (List.mem_of_getElem? er), rf.few, ?_, ?_⟩
        · rw [List.map_map]; rfl
        · intro p hp
          refine ⟨by rw [sk.z]; exact rf.parts p hp, fun row hrow => ?_⟩
          obtain ⟨c, hc, rfl⟩ := List.mem_map.mp hrow
          rw [sk.r _ (List.mem_of_getElem? (row2_get (by rw [sk.h]; exact (BN_mem hc).2)))]
          exact rf.parts p hp
        · rw [← eb r hr]
          rw [List.any_cons] at hj
          cases e : floorBad t s k r with
          | true =>
            rw [e, Bool.true_or, if_pos rfl] at hj
            exact hj
          | false =>
            rw [e, Bool.false_or] at hj
            exact hK2 _ _ ⟨rfl, fun r h => hl r (List.mem_cons_of_mem _ h), _, rfl, hj⟩
      · have e1 : floorAt g t s k = g.rules.any (floorBad t s k) := rfl
        rw [e1] at hj
        cases e : g.rules.any (floorBad t s k) with
        | true => rw [e] at hj; exact hj
        | false => rw [e] at hj; exact hj
  · clear hj
    rintro k r δ M K er ⟨rfl, o8, o9, o10, o11, rfl, hj⟩ hK
    have hk := (List.getElem?_eq_some_iff.mp er).1
    have rf := gk.rf r (List.mem_of_getElem? er)
    rw [firstBad_step hk] at hj
    have e1 : ruleAt g s.z k = ruleBad s.z r := by unfold ruleAt; rw [er]; rfl
    rw [e1] at hj
    have e0 : ((r.parts.map encN).map D.dat).length = r.parts.length := by rw [List.length_map, List.length_map]
    refine ⟨trivial, rfl, ?_⟩
    refine ⟨rfl, rfl, rfl, _, _, rfl, atI_map (at2_get (i := r.res) (by rw [sk.z]; exact rf.res)), ok16 rfl, _, rfl, by rw [e0]; have := rf.few; omega, lc_dat r.parts encN (fun p => encP (at2 s.z p)) rfl (fun p h K k => ⟨_, _, rfl, atI_map (at2_get (by rw [sk.z]; exact rf.parts p h)), k⟩) ?_⟩
    refine ⟨_, rfl, (1, 1), r.parts.map (at2 s.z), by rw [List.map_map]; rfl, by rw [List.length_map]; exact rf.few, cmp_pair _ _, ?_⟩
    rw [ltT_pair]
    refine if_b (fun e => ?_) fun e => ?_
    · rw [show ruleBad s.z r = true from e] at hj
      exact hj
    · rw [show ruleBad s.z r = false from e] at hj
      exact hK _ _ ⟨rfl, _, _, _, _, rfl, hj⟩
theorem len_law_judged {a b c} (h : sp_law_judged a b c) : a.length = 3 := by
  obtain ⟨g, td, th, rfl, _⟩ := h; rfl
theorem rows_len {n m : Nat} {h : PyData} (f : fit h = true) : rowsP n m h = true → ∃ rs, h = .tuple rs ∧ rs.length = m ∧ rs.all (isRowP n) = true := by
  intro e
  cases h with
  | tuple rs =>
    have e' : (decide (rs.length = m) && rs.all (isRowP n)) = true := e
    obtain ⟨h1, h2⟩ := Bool.and_eq_true_iff.mp e'
    exact ⟨rs, rfl, of_decide_eq_true h1, h2⟩
  | _ => cases e
def t_law_judged : DS :=
  dSeq (dIfS (dOr (dNot (dB (dIsi "tuple" (dVar 2)))) (dOr (dB (dOp neD (dCB lenC (aCons (dVar 2) (aNil))) (dC (.int 2)))) (dNot (dB (dCallP sp_law_is_row (aCons (dOp ixD (dVar 2) (dC (.int 0))) (aCons (dOp ixD (dVar 0) (dC (.int 0))) (aNil)))))))) (dRet (dTup (aCons (dC (.str (Str.ofString "shape"))) (aCons (dUn negD (dC (.int 1))) (aNil))))) (dNext)) (dSeq (dIfS (dOr (dNot (dB (dIsi "tuple" (dOp ixD (dVar 2) (dC (.int 1)))))) (dB (dOp neD (dCB lenC (aCons (dOp ixD (dVar 2) (dC (.int 1))) (aNil))) (dCB lenC (aCons (dVar 1) (aNil)))))) (dRet (dTup (aCons (dC (.str (Str.ofString "shape"))) (aCons (dUn negD (dC (.int 1))) (aNil))))) (dNext)) (dSeq (dIfS (dNot (dB (dCB allC (aCons (dLc (iSeq (dOp ixD (dVar 2) (dC (.int 1)))) (dName 8) (dYes) (dCallP sp_law_is_row (aCons (dVar 8) (aCons (dOp ixD (dVar 0) (dC (.int 0))) (aNil)))) [8] finL) (aNil))))) (dRet (dTup (aCons (dC (.str (Str.ofString "shape"))) (aCons (dUn negD (dC (.int 1))) (aNil))))) (dNext)) (dSeq (dAsg (dVar 2) (dTupG 2 (gsCons (dName 3) (gsCons (dName 4) (gsNil))))) (dSeq (dAsg (dCallP sp_law_ends (aCons (dVar 1) (aNil))) (dName 5)) (dSeq (dFor (iRange (dCB lenC (aCons (dOp ixD (dVar 0) (dC (.int 2))) (aNil)))) (dName 6) (dIfS (dB (dOp gtD (dOp ixD (dVar 3) (dOp ixD (dOp ixD (dOp ixD (dVar 0) (dC (.int 2))) (dVar 6)) (dC (.int 0)))) (dCallP sp_law_sum (aCons (dTup (aCons (dC (.int 1)) (aCons (dC (.int 1)) (aNil)))) (aCons (dLc (iSeq (dOp ixD (dOp ixD (dOp ixD (dVar 0) (dC (.int 2))) (dVar 6)) (dC (.int 2)))) (dName 11) (dYes) (dOp ixD (dVar 3) (dVar 11)) [11] finL) (aNil)))))) (dRet (dTup (aCons (dC (.str (Str.ofString "rule"))) (aCons (dVar 6) (aNil))))) (dNext))) (dSeq (dFor (iRange (dCB lenC (aCons (dVar 1) (aNil)))) (dName 7) (dIfS (dB (dCB anyC (aCons (dLc (iSeq (dOp ixD (dVar 0) (dC (.int 2)))) (dName 9) (dYes) (dOp gtD (dOp ixD (dOp ixD (dVar 4) (dVar 7)) (dOp ixD (dVar 9) (dC (.int 0)))) (dCallP sp_law_bound (aCons (dVar 1) (aCons (dVar 5) (aCons (dVar 7) (aCons (dVar 9) (aCons (dVar 3) (aCons (dVar 4) (aNil))))))))) [9] finL) (aNil)))) (dRet (dTup (aCons (dC (.str (Str.ofString "floor"))) (aCons (dVar 7) (aNil))))) (dNext))) (dRet (dTup (aCons (dC (.str (Str.ofString "told"))) (aCons (dCB minC (aCons (dLc (iSeq (dOp ixD (dVar 0) (dC (.int 1)))) (dName 10) (dYes) (dOp ixD (dOp ixD (dVar 4) (dC (.int 0))) (dVar 10)) [10] finL) (aNil))) (aNil)))))))))))
theorem law_law_judged {a b c} (h : sp_law_judged a b c) : t_law_judged { nx := fun _ _ => b .none, rt := fun d M => ∃ r, viewD M d = some r ∧ b r } (startD ["_law_grammar", "_law_tree_here", "_law_thing", "_law_z", "_law_h", "_law_ends_here", "_law_k", "_law_node", "_law_row", "_law_rule", "_law_start", "_law_part"] (a.map .dat)) M0 := by
  obtain ⟨g, t, thing, rfl, fth, gk, ⟨w, tl, to⟩, t0, hh⟩ := h
  have e0 : ((t.map encS).map D.dat).length = t.length := by rw [List.length_map, List.length_map]
  have bad : isSheetP g.n t.length thing = false → b (tagP "shape" (.int (-1))) := by
    intro e
    rcases hh with ⟨_, q⟩ | ⟨e2, _⟩
    · exact q
    · rw [e] at e2; cases e2
  refine ⟨_, ty_fit fth, ?_⟩
  rw [is_tup]
  cases thing with
  | tuple ps =>
    obtain ⟨hf, hl⟩ := fit_tup fth
    refine ⟨_, rfl, if_b (fun e => ?_) fun e => ?_⟩
    · exact ⟨ok16 rfl, _, rfl, bad (sheet_len (len2n e))⟩
    obtain ⟨x, y, rfl⟩ := len2 e
    have fx : fit x = true := fits_mem hf (by simp)
    have fy : fit y = true := fits_mem hf (by simp)
    refine ⟨_, _, rfl, rfl, _, _, rfl, rfl, _, rfl, x, g.n, rfl, fx, if_b (fun e => ?_) fun e => ?_⟩
    · rw [Bool.not_eq_true'] at e
      exact ⟨ok16 rfl, _, rfl, bad (by show (isRowP g.n x && _) = false; rw [e]; rfl)⟩
    rw [Bool.not_eq_false'] at e
    have ex : isRowP g.n x = true := e
    clear e
    have bad2 : rowsP g.n t.length y = false → b (tagP "shape" (.int (-1))) := fun e2 => bad (by show (_ && rowsP g.n t.length y) = false; rw [e2, Bool.and_false])
    refine ⟨_, _, rfl, rfl, _, ty_fit fy, ?_⟩
    rw [is_tup]
    cases y with
    | tuple rs =>
      obtain ⟨hf2, hl2⟩ := fit_tup fy
      refine ⟨_, _, rfl, rfl, _, rfl, _, rfl, ?_⟩
      rw [e0]
      refine if_b (fun e1 => ?_) fun e1 => ?_
      · rw [lenN, Bool.not_eq_true'] at e1
        exact ⟨ok16 rfl, _, rfl, bad2 (by show (decide _ && _) = false; rw [e1]; rfl)⟩
      rw [lenN, Bool.not_eq_false'] at e1
      refine ⟨_, _, rfl, rfl, _, rfl, by rw [List.length_map]; omega, lc_id rs (fun p => .bool (isRowP g.n p)) rfl (fun p hp K k => ⟨_, _, rfl, rfl, _, rfl, p, g.n, rfl, fits_mem hf2 hp, k⟩) ⟨rs.map (isRowP g.n), by rw [List.map_map]; rfl, ?_⟩⟩
      rw [List.all_map]
      refine if_b (fun e2 => ?_) fun e2 => ?_
      · rw [Bool.not_eq_true'] at e2
        exact ⟨ok16 rfl, _, rfl, bad2 (by show (_ && rs.all (isRowP g.n)) = false; rw [show rs.all (isRowP g.n) = false from e2, Bool.and_false])⟩
      rw [Bool.not_eq_false'] at e2
      rcases hh with ⟨e3, _⟩ | ⟨_, s, es, sk, hh⟩
      · have : isSheetP g.n t.length (.tuple [x, .tuple rs]) = true := by
          show (isRowP g.n x && (decide (rs.length = t.length) && rs.all (isRowP g.n))) = true
          rw [ex, e1, show rs.all (isRowP g.n) = true from e2]; rfl
        rw [this] at e3; cases e3
      cases es
      have hj : (match firstBad (ruleAt g s.z) 0 (g.rules.length - 0) with
        | some k => b (tagP "rule" (encN k))
        | none => match firstBad (floorAt g t s) 0 (t.length - 0) with
          | some k => b (tagP "floor" (encN k))
          | none => b (tagP "told" (encP (minP (g.starts.map (at2 (row2 s.h 0))))))) := by
        unfold judge at hh
        rw [Nat.sub_zero, Nat.sub_zero]
        cases e1 : firstBad (ruleAt g s.z) 0 g.rules.length with
        | some k => rw [e1] at hh; exact hh
        | none =>
          rw [e1] at hh
          cases e2 : firstBad (floorAt g t s) 0 t.length with
          | some k => rw [e2] at hh; exact hh
          | none => rw [e2] at hh; exact hh
      clear hh
      refine ⟨rfl, rfl, _, rfl, t, rfl, w, tl, _, _, rfl, rfl, _, rfl, ?_⟩
      have e4 : ((g.rules.map encR).map D.dat).length = g.rules.length := by rw [List.length_map, List.length_map]
      rw [e4]
      have hgl := gk.rl
      refine ⟨by omega, goFor_up g.rules.length (fun k δ M => M = M0 ∧ ∃ o6, δ = [some (.dat (encG g)), some (.dat (encT t)), some (.dat (encSh s)), some (.dat (encRow s.z)), some (.dat (.tuple (s.h.map encRow))), some (.dat (.list (tal t.length fun k => encN (EN t k)))), o6, none, none, none, none, none] ∧
        (match firstBad (ruleAt g s.z) k (g.rules.length - k) with
          | some k => b (tagP "rule" (encN k))
          | none => match firstBad (floorAt g t s) 0 (t.length - 0) with
            | some k => b (tagP "floor" (encN k))
            | none => b (tagP "told" (encP (minP (g.starts.map (at2 (row2 s.h 0)))))))) ?_ ?_ ⟨rfl, none, rfl, hj⟩⟩
      · clear hj
        rintro δ M ⟨rfl, o6, rfl, hj⟩
        rw [firstBad_end] at hj
        refine ⟨trivial, _, rfl, ?_⟩
        rw [e0]
        refine ⟨by omega, goFor_up t.length (fun k δ M => M = M0 ∧ ∃ o7, δ = [some (.dat (encG g)), some (.dat (encT t)), some (.dat (encSh s)), some (.dat (encRow s.z)), some (.dat (.tuple (s.h.map encRow))), some (.dat (.list (tal t.length fun k => encN (EN t k)))), o6, o7, none, none, none, none] ∧
          (match firstBad (floorAt g t s) k (t.length - k) with
            | some k => b (tagP "floor" (encN k))
            | none => b (tagP "told" (encP (minP (g.starts.map (at2 (row2 s.h 0)))))))) ?_ ?_ ⟨rfl, none, rfl, hj⟩⟩
        · clear hj
          rintro δ M ⟨rfl, o7, rfl, hj⟩
          rw [firstBad_end] at hj
          have t1 : 0 < t.length := List.length_pos_iff.mpr t0
          refine ⟨trivial, _, _, rfl, rfl, _, rfl, by rw [List.length_map, List.length_map]; have := gk.sl; omega, lc_dat g.starts encN (fun p => encP (at2 (row2 s.h 0) p)) rfl (fun p h K k => ⟨_, _, rfl, atI_map (i := 0) (row2_get (by rw [sk.h]; exact t1)), _, _, rfl, atI_map (at2_get (by rw [sk.r _ (List.mem_of_getElem? (row2_get (r := s.h) (i := 0) (by rw [sk.h]; exact t1)))]; exact gk.st p h)), k⟩) ?_⟩
          have em : (g.starts.map fun p => encP (at2 (row2 s.h 0) p)) = (g.starts.map (at2 (row2 s.h 0))).map encP := by rw [List.map_map]; rfl
          rw [em]
          have hne : g.starts.map (at2 (row2 s.h 0)) ≠ [] := by simp [gk.s0]
          refine ⟨_, rfl, hne, fun r h1 h2 => ?_⟩
          rw [minP_uniq hne h1 h2]
          exact ⟨ok16 rfl, _, rfl, hj⟩
        · clear hj
          rintro k δ M K hk ⟨rfl, o7, rfl, hj⟩ hK
          rw [firstBad_step hk] at hj
          have hrow : (row2 s.h k).length = g.n := sk.r _ (List.mem_of_getElem? (row2_get (by rw [sk.h]; exact hk)))
          refine ⟨trivial, _, _, rfl, rfl, _, rfl, by rw [e4]; omega, lc_dat g.rules encR (fun r => .bool (floorBad t s k r)) rfl (fun r hr K k => ?_) ⟨g.rules.map (floorBad t s k), by rw [List.map_map]; rfl, ?_⟩⟩
          · have rf := gk.rf r hr
            refine ⟨_, _, rfl, atI_map (row2_get (by rw [sk.h]; exact hk)), _, _, rfl, rfl, _, _, rfl, atI_map (at2_get (i := r.res) (by rw [hrow]; exact rf.res)), _, rfl, true, t, _, g.n, r, s.z, s.h, rfl, ⟨w, tl, to⟩, hk, rf, sk.z, sk.h, sk.r, cmp_pair _ _, ?_⟩
            rw [ltT_pair]
            exact k
          · rw [List.any_map]
            have e1 : floorAt g t s k = g.rules.any (id ∘ floorBad t s k) := rfl
            rw [e1] at hj
            refine if_b (fun e => ?_) fun e => ?_
            · rw [e] at hj
              exact ⟨ok16 rfl, _, rfl, hj⟩
            · rw [e] at hj
              exact hK _ _ ⟨rfl, _, rfl, hj⟩
      · clear hj
        rintro k δ M K hk ⟨rfl, o6, rfl, hj⟩ hK
        have er : g.rules[k]? = some g.rules[k] := List.getElem?_eq_getElem hk
        have rf := gk.rf g.rules[k] (List.getElem_mem hk)
        rw [firstBad_step hk] at hj
        have e1 : ruleAt g s.z k = ruleBad s.z g.rules[k] := by unfold ruleAt; rw [er]; rfl
        rw [e1] at hj
        have e5 : ((g.rules[k].parts.map encN).map D.dat).length = g.rules[k].parts.length := by rw [List.length_map, List.length_map]
        refine ⟨trivial, _, _, rfl, rfl, _, _, rfl, atI_map er, _, _, rfl, rfl, _, _, rfl, atI_map (at2_get (i := g.rules[k].res) (by rw [sk.z]; exact rf.res)), ok16 rfl, _, _, rfl, rfl, _, _, rfl, atI_map er, _, _, rfl, rfl, _, rfl, by rw [e5]; have := rf.few; omega, lc_dat g.rules[k].parts encN (fun p => encP (at2 s.z p)) rfl (fun p h K k => ⟨_, _, rfl, atI_map (at2_get (by rw [sk.z]; exact rf.parts p h)), k⟩) ?_⟩
        refine ⟨_, rfl, (1, 1), g.rules[k].parts.map (at2 s.z), by rw [List.map_map]; rfl, by rw [List.length_map]; exact rf.few, cmp_pair _ _, ?_⟩
        rw [ltT_pair]
        refine if_b (fun e => ?_) fun e => ?_
        · rw [show ruleBad s.z g.rules[k] = true from e] at hj
          exact ⟨ok16 rfl, _, rfl, hj⟩
        · rw [show ruleBad s.z g.rules[k] = false from e] at hj
          exact hK _ _ ⟨rfl, _, rfl, hj⟩
    | _ => exact ⟨ok16 rfl, _, rfl, bad2 rfl⟩
  | _ => exact ⟨ok16 rfl, _, rfl, bad rfl⟩
end DL
set_option Elab.async false
set_option linter.all false
set_option maxRecDepth 100000
set_option maxHeartbeats 4000000
namespace DL
open PySem PySem.Spec PyProof.Rows L2
/-! PL9: the law's comparison; right. -/
mutual
def szP : PyData → Nat
  | .none => 1
  | .bool _ => 1
  | .int _ => 1
  | .str _ => 1
  | .list ps => szsP ps + 1
  | .tuple ps => szsP ps + 1
  | .dict _ => 1
def szsP : List PyData → Nat
  | [] => 0
  | p :: ps => szP p + szsP ps
end
theorem szP_pos (p : PyData) : 0 < szP p := by cases p <;> unfold szP <;> omega
theorem szsP_app : ∀ xs ys : List PyData, szsP (xs ++ ys) = szsP xs + szsP ys
  | [], ys => by rw [List.nil_append, szsP, Nat.zero_add]
  | x :: xs, ys => by rw [List.cons_append, szsP, szsP, szsP_app xs ys]; omega
theorem szsP_len : ∀ xs : List PyData, xs.length ≤ szsP xs
  | [] => Nat.zero_le _
  | x :: xs => by
    have := szsP_len xs
    have := szP_pos x
    rw [List.length_cons, szsP]; omega
def sp_law_same : PSp := fun qs Qd _ => ∃ p, qs = [p, p] ∧ noList p = true ∧ szP p ≤ 16000000 ∧ Qd (.bool true)
def twin (p : PyData) : D := .dat (.tuple [p, p])
theorem pairs_twin (ps : List PyData) : (pairsP ps ps).map D.dat = ps.map twin := by
  induction ps with
  | nil => rfl
  | cons p ps ih =>
    unfold pairsP at ih ⊢
    rw [List.zip_cons_cons, List.map_cons, List.map_cons, List.map_cons, ih]; rfl
theorem noLists_mem : ∀ {ps : List PyData} {p : PyData}, noLists ps = true → p ∈ ps → noList p = true
  | q :: ps, p, h, hp => by
    have h' := Bool.and_eq_true_iff.mp (show (noList q && noLists ps) = true from h)
    rcases List.mem_cons.mp hp with rfl | hp
    · exact h'.1
    · exact noLists_mem h'.2 hp
theorem len_law_same {a b c} (h : sp_law_same a b c) : a.length = 2 := by
  obtain ⟨p, rfl, _⟩ := h; rfl
def t_law_same : DS :=
  dSeq (dAsg (dLstM (aCons (dTup (aCons (dVar 0) (aCons (dVar 1) (aNil)))) (aNil))) (dName 2)) (dSeq (dWhile (dB (dOp gtD (dCB lenC (aCons (dVar 2) (aNil))) (dC (.int 0)))) (dSeq (dAsg (dMeth0 popM (dVar 2)) (dTupG 2 (gsCons (dName 3) (gsCons (dName 4) (gsNil))))) (dIfS (dB (dIsi "tuple" (dVar 4))) (dSeq (dIfS (dOr (dNot (dB (dIsi "tuple" (dVar 3)))) (dB (dOp neD (dCB lenC (aCons (dVar 3) (aNil))) (dCB lenC (aCons (dVar 4) (aNil)))))) (dRet (dC (.bool false))) (dNext)) (dDrop (dMeth extendM (dVar 2) (aCons (dListZip (dVar 3) (dVar 4)) (aNil))))) (dIfS (dB (dIsi "str" (dVar 4))) (dIfS (dOr (dNot (dB (dIsi "str" (dVar 3)))) (dB (dOp neD (dVar 3) (dVar 4)))) (dRet (dC (.bool false))) (dNext)) (dIfS (dOr (dB (dOp isD (dVar 4) (dC .none))) (dOr (dB (dOp isD (dVar 4) (dC (.bool true)))) (dB (dOp isD (dVar 4) (dC (.bool false)))))) (dIfS (dNot (dOr (dAnd (dB (dOp isD (dVar 3) (dC .none))) (dB (dOp isD (dVar 4) (dC .none)))) (dOr (dAnd (dB (dOp isD (dVar 3) (dC (.bool true)))) (dB (dOp isD (dVar 4) (dC (.bool true))))) (dAnd (dB (dOp isD (dVar 3) (dC (.bool false)))) (dB (dOp isD (dVar 4) (dC (.bool false)))))))) (dRet (dC (.bool false))) (dNext)) (dIfS (dOr (dB (dIsi "bool" (dVar 3))) (dOr (dNot (dB (dIsi "int" (dVar 3)))) (dB (dOp neD (dVar 3) (dVar 4))))) (dRet (dC (.bool false))) (dNext))))))) (dRet (dC (.bool true))))
theorem law_law_same {a b c} (h : sp_law_same a b c) : t_law_same { nx := fun _ _ => b .none, rt := fun d M => ∃ r, viewD M d = some r ∧ b r } (startD ["_law_told", "_law_due", "_law_todo", "_law_one", "_law_two"] (a.map .dat)) M0 := by
  obtain ⟨p, rfl, nl, sz, q⟩ := h
  refine ⟨ok16 rfl, ok16 rfl, fun a ha => ⟨fun m δ M => ∃ (qs : List PyData) (o3 o4 : Option D), m = szsP qs ∧ m ≤ 16000000 ∧ (∀ q ∈ qs, noList q = true) ∧ δ = [some (.dat p), some (.dat p), some (.ref a), o3, o4] ∧ M a = some (.lst (qs.map twin)), ⟨szsP [p], [p], none, none, rfl, by rw [szsP, szsP]; omega, ?_, rfl, updM_same⟩, ?_⟩⟩
  · intro q hq
    rcases List.mem_singleton.mp hq with rfl
    exact nl
  rintro m δ M ⟨qs, o3, o4, rfl, hsz, hn, rfl, hM⟩
  refine ⟨_, seq_ref hM, ?_⟩
  rw [List.length_map]
  rcases List.eq_nil_or_concat qs with rfl | ⟨rs, x, rfl⟩
  · exact ⟨_, rfl, q⟩
  rw [List.concat_eq_append] at *
  refine if_t (decide_eq_true (by simp)) ?_
  rw [List.map_append] at hM
  rw [szsP_app, szsP, szsP, Nat.add_zero] at hsz ⊢
  have hx : noList x = true := hn x (by simp)
  have hrs : ∀ q ∈ rs, noList q = true := fun q hq => hn q (by simp [hq])
  refine ⟨⟨_, hM⟩, _, _, hM, rfl, rfl, ?_⟩
  have hlr := szsP_len rs
  have hxp := szP_pos x
  cases x with
  | none => exact ⟨_, rfl, _, rfl, ⟨szsP rs, by omega, rs, _, _, rfl, by omega, hrs, rfl, updM_same⟩⟩
  | bool c =>
    cases c <;> exact ⟨_, rfl, _, rfl, ⟨szsP rs, by omega, rs, _, _, rfl, by omega, hrs, rfl, updM_same⟩⟩
  | int i =>
    refine ⟨_, rfl, _, rfl, _, rfl, _, rfl, ?_⟩
    refine if_f (by simp) ?_
    exact ⟨szsP rs, by omega, rs, _, _, rfl, by omega, hrs, rfl, updM_same⟩
  | str x =>
    refine ⟨_, rfl, _, rfl, _, rfl, ?_⟩
    refine if_f (by simp) ?_
    exact ⟨szsP rs, by omega, rs, _, _, rfl, by omega, hrs, rfl, updM_same⟩
  | tuple ps =>
    rw [szP] at hsz ⊢
    have hlp := szsP_len ps
    refine ⟨_, rfl, _, rfl, _, rfl, _, rfl, ?_⟩
    refine if_f (by simp) ?_
    refine ⟨⟨_, updM_same⟩, by rw [Nat.min_self]; omega, _, updM_same, ?_, ⟨szsP (rs ++ ps), by rw [szsP_app]; omega, rs ++ ps, _, _, rfl, by rw [szsP_app]; omega, ?_, rfl, ?_⟩⟩
    · unfold pairsP; simp; omega
    · intro q hq
      rcases List.mem_append.mp hq with h | h
      · exact hrs q h
      · exact noLists_mem hx h
    · rw [updM_same, pairs_twin, List.map_append]
  | list ps => cases hx
  | dict ps => cases hx
end DL
set_option Elab.async false
set_option linter.all false
set_option maxRecDepth 100000
set_option maxHeartbeats 4000000
namespace DL
open PySem PySem.Spec PyProof.Rows L2
/-! PLa: the law's verdict against the program's. -/
def sp_law_right : PSp := fun qs Qd _ => ∃ (g : Gr) (t : Tr) (thing : PyData), qs = [encG g, encT t, thing] ∧ fit thing = true ∧ fit (encT t) = true ∧ isTreeP (encT t) = true ∧ GrOk g ∧ TrOk t ∧ t ≠ [] ∧
  (isSheetP g.n t.length thing = false ∨ (isSheetP g.n t.length thing = true ∧ ∃ s : Sh, thing = encSh s ∧ ShOk g.n t.length s)) ∧ Qd (.bool true)
theorem noList_P (p : PI) : noList (encP p) = true := rfl
theorem len_law_right {a b c} (h : sp_law_right a b c) : a.length = 3 := by
  obtain ⟨g, t, th, rfl, _⟩ := h; rfl
def t_law_right (C_NotUsable : Addr) (C_InvalidPaper : Addr) : DS :=
  dSeq (dAsg (dCallP sp_law_judged (aCons (dVar 0) (aCons (dVar 1) (aCons (dVar 2) (aNil))))) (dName 3)) (dSeq (dTry C_InvalidPaper 5 (dAsgX 4 (sp_lets_floors C_NotUsable C_InvalidPaper) (aCons (dVar 0) (aCons (dVar 1) (aCons (dVar 2) (aNil))))) (fun a dd => dRet (dAndV (dOp neD (dOp ixD (dVar 3) (dC (.int 0))) (dC (.str (Str.ofString "told")))) (dCallP sp_law_same (aCons (dTup (aCons (dWord a dd (dVar 5)) (aCons (dAt a dd (dVar 5)) (aNil)))) (aCons (dVar 3) (aNil))))))) (dRet (dAndV (dOp eqD (dOp ixD (dVar 3) (dC (.int 0))) (dC (.str (Str.ofString "told")))) (dCallP sp_law_same (aCons (dVar 4) (aCons (dOp ixD (dVar 3) (dC (.int 1))) (aNil)))))))
theorem law_law_right {C_NotUsable : Addr} {C_InvalidPaper : Addr} {a b c} (h : sp_law_right a b c) : t_law_right C_NotUsable C_InvalidPaper { nx := fun _ _ => b .none, rt := fun d M => ∃ r, viewD M d = some r ∧ b r } (startD ["_law_grammar", "_law_tree_here", "_law_thing", "_law_due", "_law_told", "e"] (a.map .dat)) M0 := by
  obtain ⟨g, t, thing, rfl, fth, ftd, it, gk, tk, t0, hh, q⟩ := h
  rcases hh with e | ⟨e, s, rfl, sk⟩
  · refine ⟨_, rfl, g, t, thing, rfl, fth, gk, tk, t0, .inl ⟨e, ?_⟩⟩
    refine ⟨_, rfl, g, encT t, thing, rfl, ftd, fth, gk, .inr ⟨it, t, rfl, tk, t0, .inl ⟨e, ?_⟩⟩⟩
    refine ⟨rfl, fun a d ha => ?_⟩
    exact ⟨_, _, rfl, rfl, rfl, rfl, rfl, rfl, ok16 rfl, _, rfl, tagP "shape" (.int (-1)), rfl, rfl, Nat.le_of_ble_eq_true rfl, _, rfl, q⟩
  · refine ⟨_, rfl, g, t, encSh s, rfl, fth, gk, tk, t0, .inr ⟨e, s, rfl, sk, ?_⟩⟩
    cases hv : judge g t s with
    | rule k =>
      refine ⟨_, rfl, g, encT t, encSh s, rfl, ftd, fth, gk, .inr ⟨it, t, rfl, tk, t0, .inr ⟨e, s, rfl, sk, ?_⟩⟩⟩
      rw [hv]
      refine ⟨rfl, fun a d ha => ?_⟩
      exact ⟨_, _, rfl, rfl, rfl, rfl, rfl, rfl, ok16 rfl, _, rfl, tagP "rule" (encN k), rfl, rfl, Nat.le_of_ble_eq_true rfl, _, rfl, q⟩
    | floor k =>
      refine ⟨_, rfl, g, encT t, encSh s, rfl, ftd, fth, gk, .inr ⟨it, t, rfl, tk, t0, .inr ⟨e, s, rfl, sk, ?_⟩⟩⟩
      rw [hv]
      refine ⟨rfl, fun a d ha => ?_⟩
      exact ⟨_, _, rfl, rfl, rfl, rfl, rfl, rfl, ok16 rfl, _, rfl, tagP "floor" (encN k), rfl, rfl, Nat.le_of_ble_eq_true rfl, _, rfl, q⟩
    | told p =>
      refine ⟨_, rfl, g, encT t, encSh s, rfl, ftd, fth, gk, .inr ⟨it, t, rfl, tk, t0, .inr ⟨e, s, rfl, sk, ?_⟩⟩⟩
      rw [hv]
      exact ⟨_, _, rfl, rfl, _, _, rfl, rfl, _, rfl, encP p, rfl, rfl, Nat.le_of_ble_eq_true rfl, _, rfl, q⟩
end DL
set_option Elab.async false
set_option linter.all false
set_option maxRecDepth 100000
set_option maxHeartbeats 4000000
namespace DL
open PySem PySem.Spec PyProof.Rows L2
/-! PLb: the tape and what is picked from it. -/
structure Tape (a p : Addr) (t : Nat) (M : Mp) : Prop where
  ne : p ≠ a
  ex : ∃ (ns : List Int) (salt : Int), ns ≠ [] ∧ M p = some (.lst (ns.map fun i => .dat (.int i))) ∧ M a = some (.lst [.ref p, .dat (.int (t : Nat)), .dat (.int salt)])
/-- the rest of M stays -/
def Else (a p : Addr) (M M' : Mp) : Prop := ∀ b, b ≠ a → b ≠ p → M' b = M b
theorem Else.refl {a p : Addr} {M : Mp} : Else a p M M := fun _ _ _ => rfl
theorem Else.trans {a p : Addr} {M M1 M2 : Mp} (h : Else a p M M1) (h' : Else a p M1 M2) : Else a p M M2 := fun b h1 h2 => (h' b h1 h2).trans (h b h1 h2)
def sp_law_pick : MSp := fun ds M Q => ∃ (a p : Addr) (t m : Nat), ds = [.ref a, .dat (.int (m : Nat))] ∧ Tape a p t M ∧ t < 1000000 ∧ 0 < m ∧ m < 10000 ∧ ∀ (i : Nat) (M' : Mp), i < m → Tape a p (t + 1) M' → Else a p M M' → Q (.dat (.int (i : Nat))) M'
def symsL : List Sym := [(".", 0), ("i", 0), ("n", 0), ("o-1", 0), ("q", 0), ("i", 1), ("s", 1), ("s", 2), ("i", 2), ("t", 3), ("t", 1), ("s", 4)]
def sp_law_symbols : PSp := fun qs Qd _ => qs = [] ∧ Qd (.list (symsL.map encS))
theorem len_law_pick {a b c} (h : sp_law_pick a b c) : a.length = 2 := by
  obtain ⟨a, p, t, m, rfl, _⟩ := h; rfl
def t_law_pick : DS :=
  dSeq (dAsg (dOp modD (dCB intC (aCons (dOp addD (dOp mulD (dC (.int 6)) (dOp ixD (dVar 0) (dC (.int 1)))) (dOp fdivD (dOp ixD (dVar 0) (dC (.int 1))) (dC (.int 7)))) (aNil))) (dCB lenC (aCons (dOp ixD (dVar 0) (dC (.int 0))) (aNil)))) (dName 2)) (dSeq (dAsg (dOp ixD (dOp ixD (dVar 0) (dC (.int 0))) (dVar 2)) (dName 3)) (dSeq (dAsg (dOp fdivD (dVar 3) (dVar 1)) (dSub (dOp ixD (dVar 0) (dC (.int 0))) (dVar 2) (setL))) (dSeq (dAsg (dOp addD (dOp ixD (dVar 0) (dC (.int 1))) (dC (.int 1))) (dSub (dVar 0) (dC (.int 1)) (setL))) (dRet (dOp modD (dCB intC (aCons (dOp addD (dOp addD (dOp addD (dVar 3) (dOp mulD (dC (.int 19)) (dOp ixD (dVar 0) (dC (.int 1))))) (dOp fdivD (dOp mulD (dOp ixD (dVar 0) (dC (.int 1))) (dOp ixD (dVar 0) (dC (.int 1)))) (dC (.int 3)))) (dOp mulD (dOp ixD (dVar 0) (dC (.int 2))) (dOp addD (dOp modD (dOp ixD (dVar 0) (dC (.int 1))) (dC (.int 6))) (dOp fdivD (dOp ixD (dVar 0) (dC (.int 1))) (dC (.int 2)))))) (aNil))) (dVar 1))))))
theorem law_law_pick {a b c} (h : sp_law_pick a b c) : t_law_pick { nx := fun _ M' => c (.dat .none) M', rt := c } (startD ["_law_tape", "_law_many", "_law_at", "_law_cell"] a) b := by
  obtain ⟨a, p, t, m, rfl, ⟨ne, ns, salt, n0, hp, ha⟩, ht, m0, m1, q⟩ := h
  have ln : (ns.map fun i => D.dat (.int i)).length = ns.length := List.length_map ..
  have lp : 0 < ns.length := List.length_pos_iff.mpr n0
  obtain ⟨j, hj, ej⟩ : ∃ j : Nat, j < ns.length ∧ (6 * ((t : Nat) : Int) + ((t : Nat) : Int) / 7) % (((ns.map fun i => D.dat (.int i)).length : Nat) : Int) = ((j : Nat) : Int) := by
    rw [ln]
    have h1 := Int.emod_nonneg (6 * ((t : Nat) : Int) + ((t : Nat) : Int) / 7) (b := ((ns.length : Nat) : Int)) (by omega)
    have h2 := Int.emod_lt_of_pos (6 * ((t : Nat) : Int) + ((t : Nat) : Int) / 7) (b := ((ns.length : Nat) : Int)) (by omega)
    exact ⟨((6 * ((t : Nat) : Int) + ((t : Nat) : Int) / 7) % ((ns.length : Nat) : Int)).toNat, by omega, by omega⟩
  refine seq_asg (d := .dat (encN j)) (fun Q k => ?_) ?_
  · refine ⟨_, _, seq_ref ha, atI_nat (i := 1) rfl, .inl ⟨by decide, by decide⟩, _, _, seq_ref ha, atI_nat (i := 1) rfl, ⟨by decide, by decide⟩, _, _, seq_ref ha, atI_nat (i := 0) rfl, _, seq_ref hp, by rw [ln]; omega, ?_⟩
    exact q_int_eq ej k
  have ej2 : ns[j]? = some ns[j] := List.getElem?_eq_getElem hj
  refine ⟨_, _, seq_ref ha, atI_nat (i := 0) rfl, _, _, seq_ref hp, atI_mapD ej2, ⟨by omega, by omega⟩, _, _, seq_ref ha, atI_nat (i := 0) rfl, _, _, hp, ixN_nat (by rw [ln]; exact hj), ?_⟩
  have ha1 : (updM b p (.lst ((ns.map fun i => D.dat (.int i)).set j (.dat (.int (ns[j] / ((m : Nat) : Int))))))) a = some (.lst [.ref p, .dat (.int (t : Nat)), .dat (.int salt)]) := by rw [updM_ne ne.symm]; exact ha
  have hp1 : (updM b p (.lst ((ns.map fun i => D.dat (.int i)).set j (.dat (.int (ns[j] / ((m : Nat) : Int))))))) p = some (.lst ((ns.set j (ns[j] / ((m : Nat) : Int))).map fun i => D.dat (.int i))) := by rw [updM_same, ← List.map_set]
  have hb1 : Else a p b (updM b p (.lst ((ns.map fun i => D.dat (.int i)).set j (.dat (.int (ns[j] / ((m : Nat) : Int))))))) := fun c h1 h2 => updM_ne h2
  generalize updM b p (.lst ((ns.map fun i => D.dat (.int i)).set j (.dat (.int (ns[j] / ((m : Nat) : Int)))))) = M1 at ha1 hp1 hb1 ⊢
  refine ⟨_, _, seq_ref ha1, atI_nat (i := 1) rfl, _, 1, ha1, rfl, ?_⟩
  have ha2 : (updM M1 a (.lst ([.ref p, .dat (.int (t : Nat)), .dat (.int salt)].set 1 (.dat (.int (((t : Nat) : Int) + 1)))))) a = some (.lst [.ref p, .dat (.int ((t + 1 : Nat) : Int)), .dat (.int salt)]) := by rw [updM_same]; rfl
  have hp2 : (updM M1 a (.lst ([.ref p, .dat (.int (t : Nat)), .dat (.int salt)].set 1 (.dat (.int (((t : Nat) : Int) + 1)))))) p = some (.lst ((ns.set j (ns[j] / ((m : Nat) : Int))).map fun i => D.dat (.int i))) := by rw [updM_ne ne]; exact hp1
  have hb2 : Else a p b (updM M1 a (.lst ([.ref p, .dat (.int (t : Nat)), .dat (.int salt)].set 1 (.dat (.int (((t : Nat) : Int) + 1)))))) := fun c h1 h2 => (updM_ne h1).trans (hb1 c h1 h2)
  generalize updM M1 a (.lst ([.ref p, .dat (.int (t : Nat)), .dat (.int salt)].set 1 (.dat (.int (((t : Nat) : Int) + 1))))) = M2 at ha2 hp2 hb2 ⊢
  refine ⟨_, _, seq_ref ha2, atI_nat (i := 1) rfl, .inl ⟨by decide, by decide⟩, _, _, seq_ref ha2, atI_nat (i := 1) rfl, _, _, seq_ref ha2, atI_nat (i := 1) rfl, .inl ⟨by omega, by omega⟩, ⟨by decide, by decide⟩, _, _, seq_ref ha2, atI_nat (i := 2) rfl, _, _, seq_ref ha2, atI_nat (i := 1) rfl, by decide, _, _, seq_ref ha2, atI_nat (i := 1) rfl, ⟨by decide, by decide⟩, .inr ⟨by omega, by omega⟩, by omega, ?_⟩
  generalize (ns[j] + 19 * ((t + 1 : Nat) : Int) + ((t + 1 : Nat) : Int) * ((t + 1 : Nat) : Int) / 3 + salt * (((t + 1 : Nat) : Int) % 6 + ((t + 1 : Nat) : Int) / 2)) = X
  have h1 := Int.emod_nonneg X (b := ((m : Nat) : Int)) (by omega)
  have h2 := Int.emod_lt_of_pos X (b := ((m : Nat) : Int)) (by omega)
  refine q_int_eq (c := ((X % ((m : Nat) : Int)).toNat : Nat)) (by omega) (q _ M2 (by omega) ⟨ne, _, salt, ?_, hp2, ha2⟩ hb2)
  intro e
  have := congrArg List.length e
  rw [List.length_set] at this
  simp at this
  exact n0 this
theorem len_law_symbols {a b c} (h : sp_law_symbols a b c) : a.length = 0 := by
  obtain ⟨rfl, _⟩ := h; rfl
def t_law_symbols : DS :=
  dRet (dLst (aCons (dTup (aCons (dC (.str (Str.ofString "."))) (aCons (dC (.int 0)) (aNil)))) (aCons (dTup (aCons (dC (.str (Str.ofString "i"))) (aCons (dC (.int 0)) (aNil)))) (aCons (dTup (aCons (dC (.str (Str.ofString "n"))) (aCons (dC (.int 0)) (aNil)))) (aCons (dTup (aCons (dC (.str (Str.ofString "o-1"))) (aCons (dC (.int 0)) (aNil)))) (aCons (dTup (aCons (dC (.str (Str.ofString "q"))) (aCons (dC (.int 0)) (aNil)))) (aCons (dTup (aCons (dC (.str (Str.ofString "i"))) (aCons (dC (.int 1)) (aNil)))) (aCons (dTup (aCons (dC (.str (Str.ofString "s"))) (aCons (dC (.int 1)) (aNil)))) (aCons (dTup (aCons (dC (.str (Str.ofString "s"))) (aCons (dC (.int 2)) (aNil)))) (aCons (dTup (aCons (dC (.str (Str.ofString "i"))) (aCons (dC (.int 2)) (aNil)))) (aCons (dTup (aCons (dC (.str (Str.ofString "t"))) (aCons (dC (.int 3)) (aNil)))) (aCons (dTup (aCons (dC (.str (Str.ofString "t"))) (aCons (dC (.int 1)) (aNil)))) (aCons (dTup (aCons (dC (.str (Str.ofString "s"))) (aCons (dC (.int 4)) (aNil)))) (aNil))))))))))))))
theorem law_law_symbols {a b c} (h : sp_law_symbols a b c) : t_law_symbols { nx := fun _ _ => b .none, rt := fun d M => ∃ r, viewD M d = some r ∧ b r } (startD [] (a.map .dat)) M0 := by
  obtain ⟨rfl, q⟩ := h
  exact ⟨ok16 rfl, ok16 rfl, ok16 rfl, ok16 rfl, ok16 rfl, ok16 rfl, ok16 rfl, ok16 rfl, ok16 rfl, ok16 rfl, ok16 rfl, ok16 rfl, ok16 rfl, _, rfl, q⟩
end DL
set_option Elab.async false
set_option linter.all false
set_option maxRecDepth 100000
set_option maxHeartbeats 4000000
namespace DL
open PySem PySem.Spec PyProof.Rows L2
/-! PLc: sheets that are drawn, bent. -/
def Keeps (a p : Addr) (M M' : Mp) : Prop := ∀ b o, b ≠ a → b ≠ p → M b = some o → M' b = some o
theorem Keeps.refl {a p : Addr} {M : Mp} : Keeps a p M M := fun _ _ _ _ h => h
theorem Keeps.trans {a p : Addr} {M M1 M2 : Mp} (h : Keeps a p M M1) (h' : Keeps a p M1 M2) : Keeps a p M M2 := fun b o h1 h2 h3 => h' b o h1 h2 (h b o h1 h2 h3)
theorem Else.keeps {a p : Addr} {M M' : Mp} (h : Else a p M M') : Keeps a p M M' := fun b o h1 h2 h3 => (h b h1 h2).trans h3
theorem Keeps.new {a p c : Addr} {M : Mp} {o : MO} (h : M c = none) : Keeps a p M (updM M c o) := fun b o' _ _ h3 => by
  rw [updM_ne (fun e => by subst e; rw [h] at h3; cases h3)]; exact h3
theorem Keeps.fresh {a p c : Addr} {M M' : Mp} (h : Keeps a p M M') (e : M' c = none) (h1 : c ≠ a) (h2 : c ≠ p) : M c = none := by
  cases q : M c with
  | none => rfl
  | some o => rw [h c o h1 h2 q] at e; cases e
theorem Keeps.put {a p c : Addr} {M M' : Mp} {o : MO} (h : Keeps a p M M') (e : M c = none) : Keeps a p M (updM M' c o) := fun b o' h1 h2 h3 => by
  rw [updM_ne (fun z => by subst z; rw [e] at h3; cases h3)]; exact h b o' h1 h2 h3
theorem Tape.new {a p c : Addr} {t : Nat} {M : Mp} {o : MO} (T : Tape a p t M) (h : M c = none) : Tape a p t (updM M c o) := by
  obtain ⟨ne, ns, salt, n0, hp, ha⟩ := T
  have h1 : p ≠ c := fun e => by subst e; rw [h] at hp; cases hp
  have h2 : a ≠ c := fun e => by subst e; rw [h] at ha; cases ha
  exact ⟨ne, ns, salt, n0, by rw [updM_ne h1]; exact hp, by rw [updM_ne h2]; exact ha⟩
theorem Tape.put {a p c : Addr} {t : Nat} {M : Mp} {o : MO} (T : Tape a p t M) (h1 : c ≠ p) (h2 : c ≠ a) : Tape a p t (updM M c o) := by
  obtain ⟨ne, ns, salt, n0, hp, ha⟩ := T
  exact ⟨ne, ns, salt, n0, by rw [updM_ne h1.symm]; exact hp, by rw [updM_ne h2.symm]; exact ha⟩
/-- the state of a def that picks: t of at most T turns, what M0 holds is kept -/
def TS (a p : Addr) (M0 : Mp) (T t : Nat) (M : Mp) : Prop := Tape a p t M ∧ t ≤ T ∧ Keeps a p M0 M
theorem TS.next {a p : Addr} {M0 M M' : Mp} {T t : Nat} (h : TS a p M0 T t M) (ht : t < T) (hT : Tape a p (t + 1) M') (he : Else a p M M') : TS a p M0 T (t + 1) M' := ⟨hT, ht, h.2.2.trans he.keeps⟩
theorem lc_tape {α β : Type} {te : DE} {i : Nat} {δw : Sd} {stay : Mp → Prop} {enc : α → D} {dec : β → PyData} {P : β → Prop} {J : Nat → Mp → Prop} (hJ : ∀ k M, J k M → stay M) : ∀ (l : List α) {M : Mp} {items : List D} {Q : List D → Mp → Prop}, items = l.map enc → J l.length M →
    (∀ a ∈ l, ∀ k M (K : DK), J (k + 1) M → (∀ y M', P y → J k M' → K (.dat (dec y)) M') → te (δw.set i (some (enc a))) M K) →
    (∀ (ys : List β) M', ys.length = l.length → (∀ y ∈ ys, P y) → J 0 M' → Q (ys.map fun y => .dat (dec y)) M') → goLc (dName i) dYes te stay δw items M Q
  | [], M, _, Q, e, h, ht, q => by subst e; exact ⟨hJ _ _ h, q [] M rfl (fun _ h => by cases h) h⟩
  | a :: l, M, _, Q, e, h, ht, q => by
    subst e
    refine ⟨hJ _ _ h, ht a List.mem_cons_self l.length M _ h fun y M' hy hM' => ?_⟩
    exact lc_tape hJ l rfl hM' (fun b hb => ht b (List.mem_cons_of_mem _ hb)) fun ys M2 h1 h2 h3 => q (y :: ys) M2 (by rw [List.length_cons, h1, List.length_cons]) (fun z hz => by
      rcases List.mem_cons.mp hz with rfl | hz
      · exact hy
      · exact h2 z hz) h3
def sp_law_drawn : MSp := fun ds M Q => ∃ (a p : Addr) (t : Nat) (g : Gr) (tr : Tr), ds = [.ref a, .dat (encG g), .dat (encT tr)] ∧ Tape a p t M ∧ t ≤ 10000 ∧ g.n ≤ 100 ∧ tr.length ≤ 100 ∧
  ∀ (s : Sh) M' t', ShOk g.n tr.length s → Tape a p t' M' → t' ≤ t + 100000 → Keeps a p M M' → Q (.dat (encSh s)) M'
theorem range_items (n : Nat) : upTo ((n : Nat) : Int) = (List.range n).map fun i => D.dat (encN i) := upTo_eq n
theorem len_law_drawn {a b c} (h : sp_law_drawn a b c) : a.length = 3 := by
  obtain ⟨a, p, t, g, tr, rfl, _⟩ := h; rfl
def t_law_drawn : DS :=
  dSeq (dAsg (dCB tupleC (aCons (dLc (iRange (dOp ixD (dVar 1) (dC (.int 0)))) (dName 7) (dYes) (dTup (aCons (dOp subD (dCallM sp_law_pick (aCons (dVar 0) (aCons (dC (.int 4)) (aNil)))) (dC (.int 1))) (aCons (dOp subD (dCallM sp_law_pick (aCons (dVar 0) (aCons (dC (.int 4)) (aNil)))) (dC (.int 1))) (aNil)))) [7] finL) (aNil))) (dName 3)) (dSeq (dAsg (dCallM sp_law_pick (aCons (dVar 0) (aCons (dC (.int 5)) (aNil)))) (dName 4)) (dSeq (dAsg (dLstM (aNil)) (dName 5)) (dSeq (dFor (iRange (dCB lenC (aCons (dVar 2) (aNil)))) (dName 6) (dDrop (dMeth appendM (dVar 5) (aCons (dCB tupleC (aCons (dLc (iRange (dOp ixD (dVar 1) (dC (.int 0)))) (dName 7) (dYes) (dTup (aCons (dOp subD (dCallM sp_law_pick (aCons (dVar 0) (aCons (dC (.int 3)) (aNil)))) (dVar 4)) (aCons (dOp subD (dCallM sp_law_pick (aCons (dVar 0) (aCons (dC (.int 3)) (aNil)))) (dC (.int 1))) (aNil)))) [7] finL) (aNil))) (aNil))))) (dRet (dTup (aCons (dVar 3) (aCons (dCB tupleC (aCons (dVar 5) (aNil))) (aNil))))))))
theorem law_law_drawn {a b c} (h : sp_law_drawn a b c) : t_law_drawn { nx := fun _ M' => c (.dat .none) M', rt := c } (startD ["_law_tape", "_law_grammar", "_law_tree_here", "_law_z", "_law_low", "_law_h", "_law_node", "_law_name"] a) b := by
  obtain ⟨a, p, t, g, tr, rfl, T, ht, hn, hl, q⟩ := h
  have rn : (List.range g.n).length = g.n := List.length_range
  have e0 : ((tr.map encS).map D.dat).length = tr.length := by rw [List.length_map, List.length_map]
  refine ⟨_, _, rfl, rfl, ⟨by omega, by omega⟩, by rw [upTo_len]; omega, lc_tape (β := PI) (dec := encP) (P := fun _ => True) (J := fun k M => ∃ t', t' + 2 * k = t + 2 * g.n ∧ TS a p b (t + 100000) t' M) (fun _ _ _ => trivial) (List.range g.n) (range_items _) ⟨t, by rw [rn], T, by omega, .refl⟩ (fun i hi k M K ⟨t', et, hM⟩ hK => ?_) fun z M1 hz _ ⟨t1, et1, hM1⟩ => ?_⟩
  · refine ⟨a, p, _, 4, rfl, hM.1, by omega, by decide, by decide, fun i M1 hi h1 e_h1 => ?_⟩
    replace h1 := hM.next (by omega) h1 e_h1
    refine ⟨a, p, _, 4, rfl, h1.1, by omega, by decide, by decide, fun j M2 hj h2 e_h2 => ?_⟩
    replace h2 := h1.next (by omega) h2 e_h2
    refine ⟨ok16 rfl, ?_⟩
    exact hK ((i : Nat) - 1, (j : Nat) - 1) M2 trivial ⟨_, by omega, h2⟩
  rw [rn] at hz
  refine finL_map encP z ⟨_, _, rfl, datsOf_map _, ?_⟩
  refine ⟨a, p, _, 5, rfl, hM1.1, by omega, by decide, by decide, fun low M2 hlow h2 e_h2 => ?_⟩
  replace h2 := hM1.next (by omega) h2 e_h2
  refine ⟨ok16 rfl, fun p2 hp2 => ⟨_, rfl, ?_⟩⟩
  rw [e0]
  have h3 : TS a p b (t + 100000) (t1 + 1) (updM M2 p2 (.lst [])) := ⟨h2.1.new hp2, h2.2.1, h2.2.2.trans (.new hp2)⟩
  have hb0 : b p2 = none := h2.2.2.fresh hp2 (fun e => by obtain ⟨_, ns, salt, _, hp, ha⟩ := h2.1; subst e; rw [hp2] at ha; cases ha) (fun e => by obtain ⟨_, ns, salt, _, hp, ha⟩ := h2.1; subst e; rw [hp2] at hp; cases hp)
  have ne1 : p2 ≠ p := fun e => by obtain ⟨_, ns, salt, _, hp, ha⟩ := h2.1; subst e; rw [hp2] at hp; cases hp
  have ne2 : p2 ≠ a := fun e => by obtain ⟨_, ns, salt, _, hp, ha⟩ := h2.1; subst e; rw [hp2] at ha; cases ha
  refine ⟨by omega, goFor_up tr.length (fun k δ M => ∃ (o6 : Option D) (h : List Row) (t' : Nat), h.length = k ∧ (∀ r ∈ h, r.length = g.n) ∧ t' = t1 + 1 + 2 * g.n * k ∧ TS a p b (t + 100000) t' M ∧ M p2 = some (.lst ((h.map encRow).map D.dat)) ∧ δ = [some (.ref a), some (.dat (encG g)), some (.dat (encT tr)), some (.dat (encRow z)), some (.dat (encN low)), some (.ref p2), o6, none]) ?_ ?_ ⟨none, [], t1 + 1, rfl, (fun _ h => by cases h), by omega, h3, updM_same, rfl⟩⟩
  · rintro δ M ⟨o6, h, t', hh, hr, et, hM, hp, rfl⟩
    have hb : 2 * g.n * tr.length ≤ 20000 := by
      have : 2 * g.n * tr.length ≤ 200 * 100 := Nat.mul_le_mul (by omega) hl
      omega
    refine ⟨trivial, _, _, seq_ref hp, datsOf_map _, ok16 rfl, ?_⟩
    exact q ⟨z, h⟩ M t' ⟨hz, hh, hr⟩ hM.1 hM.2.1 hM.2.2
  · rintro k δ M K hk ⟨o6, h, t', hh, hr, et, hM, hp, rfl⟩ hK
    have hb : 2 * g.n * (k + 1) ≤ 20000 := by
      have : 2 * g.n * (k + 1) ≤ 200 * 100 := Nat.mul_le_mul (by omega) (by omega)
      omega
    rw [Nat.mul_add, Nat.mul_one] at hb
    refine ⟨trivial, ⟨_, hp⟩, _, _, rfl, rfl, ⟨by omega, by omega⟩, by rw [upTo_len]; omega, lc_tape (β := PI) (dec := encP) (P := fun _ => True) (J := fun k M => ∃ t2, t2 + 2 * k = t' + 2 * g.n ∧ TS a p b (t + 100000) t2 M ∧ M p2 = some (.lst ((h.map encRow).map D.dat))) (fun _ _ _ => trivial) (List.range g.n) (range_items _) ⟨t', by rw [rn], hM, hp⟩ (fun i hi k2 M K ⟨t2, et, hM, hp⟩ hK => ?_) fun r M1 hz _ ⟨t3, et1, hM1, hp1⟩ => ?_⟩
    · refine ⟨a, p, _, 3, rfl, hM.1, by omega, by decide, by decide, fun i M1 hi h1 e_h1 => ?_⟩
      replace h1 := hM.next (by omega) h1 e_h1
      refine ⟨a, p, _, 3, rfl, h1.1, by omega, by decide, by decide, fun j M2 hj h2 e_h2 => ?_⟩
      replace h2 := h1.next (by omega) h2 e_h2
      refine ⟨ok16 rfl, ?_⟩
      exact hK ((i : Nat) - (low : Nat), (j : Nat) - 1) M2 trivial ⟨_, by omega, h2, by rw [e_h2 _ ne2 ne1, e_h1 _ ne2 ne1]; exact hp⟩
    rw [rn] at hz
    refine finL_map encP r ⟨_, _, rfl, datsOf_map _, _, hp1, by simp; omega, hK _ _ ⟨_, h ++ [r], t3, by simp [hh], ?_, by rw [Nat.mul_add]; omega, ⟨hM1.1.put ne1 ne2, hM1.2.1, ?_⟩, ?_, rfl⟩⟩
    · intro x hx
      rcases List.mem_append.mp hx with hx | hx
      · exact hr x hx
      · rcases List.mem_singleton.mp hx with rfl
        exact hz
    · exact hM1.2.2.put hb0
    · rw [updM_same, List.map_append, List.map_append]; rfl
end DL
set_option Elab.async false
set_option linter.all false
set_option maxRecDepth 100000
set_option maxHeartbeats 4000000
namespace DL
open PySem PySem.Spec PyProof.Rows L2
/-! PLd: lists of lists; the sheet that is bent. -/
theorem lc_lists {α : Type} {te : DE} {i : Nat} {δw : Sd} {stay : Mp → Prop} {enc : α → D} {f : α → List D} (hJ : ∀ M, stay M) : ∀ (l : List α) {M : Mp} {items : List D} {Q : List D → Mp → Prop}, items = l.map enc →
    (∀ a ∈ l, ∀ M (K : DK), (∀ p, M p = none → K (.ref p) (updM M p (.lst (f a)))) → te (δw.set i (some (enc a))) M K) →
    (∀ (qs : List Addr) M', qs.length = l.length → qs.Nodup → (∀ q ∈ qs, M q = none) → (∀ (i : Nat) (q : Addr) (a : α), qs[i]? = some q → l[i]? = some a → M' q = some (.lst (f a))) → (∀ b, b ∉ qs → M' b = M b) → Q (qs.map .ref) M') → goLc (dName i) dYes te stay δw items M Q
  | [], M, _, Q, e, ht, q => by
    subst e
    exact ⟨hJ _, q [] M rfl List.nodup_nil (fun _ h => by cases h) (fun i q a h => by cases h) fun _ _ => rfl⟩
  | a :: l, M, _, Q, e, ht, q => by
    subst e
    refine ⟨hJ _, ht a List.mem_cons_self M _ fun p hp => ?_⟩
    refine lc_lists hJ l rfl (fun b hb => ht b (List.mem_cons_of_mem _ hb)) fun qs M' h1 h2 h3 h4 h5 => ?_
    have hn : p ∉ qs := fun h => by have := h3 p h; rw [updM_same] at this; cases this
    have hM : ∀ q ∈ qs, M q = none := fun q hq => by
      have := h3 q hq
      rw [updM_ne (fun e => hn (by rw [← e]; exact hq))] at this
      exact this
    refine q (p :: qs) M' (by rw [List.length_cons, h1, List.length_cons]) (List.nodup_cons.mpr ⟨hn, h2⟩) (fun q hq => ?_) (fun i q b hi hb => ?_) fun b hb => ?_
    · rcases List.mem_cons.mp hq with rfl | hq
      · exact hp
      · exact hM q hq
    · cases i with
      | zero =>
        cases hi; cases hb
        rw [h5 p hn, updM_same]
      | succ i => exact h4 i q b hi hb
    · rw [h5 b (fun h => hb (List.mem_cons_of_mem _ h)), updM_ne (fun e => hb (by rw [e]; exact List.mem_cons_self))]
theorem nodup_ix {α : Type} : ∀ {l : List α} {i j : Nat} {x : α}, l.Nodup → l[i]? = some x → l[j]? = some x → i = j
  | [], i, j, x, _, h, _ => by rw [List.getElem?_nil] at h; cases h
  | a :: l, 0, 0, x, _, _, _ => rfl
  | a :: l, 0, j + 1, x, n, h, h' => by
    cases h
    exact absurd (List.mem_of_getElem? (by rw [List.getElem?_cons_succ] at h'; exact h')) (List.nodup_cons.mp n).1
  | a :: l, i + 1, 0, x, n, h, h' => by
    cases h'
    exact absurd (List.mem_of_getElem? (by rw [List.getElem?_cons_succ] at h; exact h)) (List.nodup_cons.mp n).1
  | a :: l, i + 1, j + 1, x, n, h, h' => by
    rw [List.getElem?_cons_succ] at h h'
    rw [nodup_ix (List.nodup_cons.mp n).2 h h']
def rowD (r : Row) : List D := r.map fun p => D.dat (encP p)
/-- a list of lists of pairs -/
structure HL (ph : Addr) (qs : List Addr) (rows : List Row) (M : Mp) : Prop where
  top : M ph = some (.lst (qs.map .ref))
  len : qs.length = rows.length
  row : ∀ (i : Nat) (q : Addr) (r : Row), qs[i]? = some q → rows[i]? = some r → M q = some (.lst (rowD r))
theorem HL.mono {ph : Addr} {qs : List Addr} {rows : List Row} {M M' : Mp} (h : HL ph qs rows M) (k : ∀ b, b = ph ∨ b ∈ qs → M' b = M b) : HL ph qs rows M' :=
  ⟨(k _ (.inl rfl)).trans h.top, h.len, fun i q r h1 h2 => (k q (.inr (List.mem_of_getElem? h1))).trans (h.row i q r h1 h2)⟩
theorem HL.set {ph : Addr} {qs : List Addr} {rows : List Row} {M : Mp} (h : HL ph qs rows M) (nd : qs.Nodup) (hp : ph ∉ qs) {i : Nat} {q : Addr} (hi : qs[i]? = some q) (r : Row) : HL ph qs (rows.set i r) (updM M q (.lst (rowD r))) := by
  refine ⟨?_, by rw [h.len, List.length_set], fun j q' r' h1 h2 => ?_⟩
  · rw [updM_ne (fun e => hp (by rw [e]; exact List.mem_of_getElem? hi))]; exact h.top
  · by_cases e : j = i
    · subst e
      rw [hi] at h1; cases h1
      have hl : j < rows.length := by rw [← h.len]; exact (List.getElem?_eq_some_iff.mp hi).1
      rw [List.getElem?_set_self hl] at h2; cases h2
      rw [updM_same]
    · have ne : q' ≠ q := fun z => by
        subst z
        exact e (nodup_ix nd h1 hi)
      rw [updM_ne ne]
      rw [List.getElem?_set_ne (fun z => e z.symm)] at h2
      exact h.row j q' r' h1 h2
theorem atI_ints {ns : List Int} {i : Nat} (h : i < ns.length) : atI ((ns.map PyData.int).map D.dat) (i : Int) = some (.dat (.int (ns.getD i 0))) := by
  refine atI_map ?_
  rw [List.getD_eq_getElem?_getD, List.getElem?_eq_getElem h]; rfl
theorem rowD_eq (r : Row) : rowD r = (r.map encP).map D.dat := (map_dat encP r).symm
theorem rowD_set {r : Row} {i : Nat} {x : PI} : (rowD r).set i (.dat (encP x)) = rowD (r.set i x) := by unfold rowD; rw [← List.map_set]
/-- the list of lists, as tuples -/
theorem HL.out {ph : Addr} {qs : List Addr} {rows : List Row} {M : Mp} (h : HL ph qs rows M) {i : Nat} {δw : Sd} {te : DE} {Q : List D → Mp → Prop} (ht : ∀ q ∈ qs, ∀ r, M q = some (.lst (rowD r)) → ∀ K : DK, K (.dat (encRow r)) M → te (δw.set i (some (.ref q))) M K)
    (q : Q (rows.map fun r => .dat (encRow r)) M) : goLc (dName i) dYes te (fun M' => seqOf M' (.ref ph) = some (qs.map .ref)) δw (qs.map .ref) M Q := by
  have e : qs.map D.ref = (qs.zip rows).map fun x => D.ref x.1 := by
    have : (qs.zip rows).map (fun x => D.ref x.1) = ((qs.zip rows).map Prod.fst).map D.ref := by rw [List.map_map]; rfl
    rw [this, List.map_fst_zip (Nat.le_of_eq h.len)]
  have e2 : rows.map (fun r => D.dat (encRow r)) = (qs.zip rows).map fun x => D.dat (encRow x.2) := by
    have : (qs.zip rows).map (fun x => D.dat (encRow x.2)) = ((qs.zip rows).map Prod.snd).map fun r => D.dat (encRow r) := by rw [List.map_map]; rfl
    rw [this, List.map_snd_zip (Nat.le_of_eq h.len.symm)]
  rw [e2] at q
  refine lc_map (qs.zip rows) (fun x => D.ref x.1) (fun x => .dat (encRow x.2)) e (seq_ref h.top) (fun x hx K k => ?_) q
  refine ht x.1 (List.of_mem_zip hx).1 x.2 ?_ K k
  obtain ⟨j, hj⟩ := List.getElem?_of_mem hx
  rw [List.getElem?_zip_eq_some] at hj
  exact h.row j _ _ hj.1 hj.2
def sp_law_bent : MSp := fun ds M Q => ∃ (a p : Addr) (t m : Nat) (g : Gr) (s : Sh), ds = [.ref a, .dat (encG g), .dat (encSh s)] ∧ Tape a p t M ∧ t ≤ 10000 ∧ ShOk g.n m s ∧ 0 < m ∧ m ≤ 1000 ∧ 0 < g.n ∧ g.n ≤ 1000 ∧
  ∀ (s' : Sh) M' t', ShOk g.n m s' → Tape a p t' M' → t' ≤ t + 10 → Keeps a p M M' → Q (.dat (encSh s')) M'
theorem seq_mid {t u : DS} {E : DEnds} {δ : Sd} {M : Mp} (J : Sd → Mp → Prop) (h : ∀ K : Sd → Mp → Prop, (∀ δ M, J δ M → K δ M) → t { nx := K, rt := E.rt, bk := E.bk, ct := E.ct, xn := E.xn } δ M) (k : ∀ δ M, J δ M → u E δ M) : dSeq t u E δ M := h _ k
theorem Tape.congr {a p : Addr} {t : Nat} {M M' : Mp} (T : Tape a p t M) (h1 : M' a = M a) (h2 : M' p = M p) : Tape a p t M' := by
  obtain ⟨ne, ns, salt, n0, hp, ha⟩ := T
  exact ⟨ne, ns, salt, n0, h2.trans hp, h1.trans ha⟩
theorem Tape.some {a p : Addr} {t : Nat} {M : Mp} (T : Tape a p t M) : (M a).isSome = true ∧ (M p).isSome = true := by
  obtain ⟨ne, ns, salt, n0, hp, ha⟩ := T
  rw [hp, ha]; exact ⟨rfl, rfl⟩
theorem ne_fresh {M : Mp} {x y : Addr} (h1 : M x = none) (h2 : (M y).isSome = true) : x ≠ y := fun e => by subst e; rw [h1] at h2; cases h2
theorem len_law_bent {a b c} (h : sp_law_bent a b c) : a.length = 3 := by
  obtain ⟨a, p, t, m, g, s, rfl, _⟩ := h; rfl
def t_law_bent : DS :=
  dSeq (dPar 4 5 (aCons (dCB listM (aCons (dOp ixD (dVar 2) (dC (.int 0))) (aNil))) (aCons (dLc (iSeq (dOp ixD (dVar 2) (dC (.int 1)))) (dName 3) (dYes) (dCB listM (aCons (dVar 3) (aNil))) [3] finM) (aNil)))) (dSeq (dAsg (dOp ixD (dLst (aCons (dC (.int 1)) (aCons (dUn negD (dC (.int 1))) (aCons (dC (.int 2)) (aCons (dUn negD (dC (.int 3))) (aCons (dOp powD (dC (.int 10)) (dC (.int 40))) (aCons (dUn negD (dOp powD (dC (.int 10)) (dC (.int 40)))) (aCons (dC (.int 1)) (aNil))))))))) (dCallM sp_law_pick (aCons (dVar 0) (aCons (dC (.int 7)) (aNil))))) (dName 6)) (dSeq (dAsg (dCallM sp_law_pick (aCons (dVar 0) (aCons (dOp ixD (dVar 1) (dC (.int 0))) (aNil)))) (dName 7)) (dSeq (dAsg (dVar 4) (dName 3)) (dSeq (dIfS (dB (dOp gtD (dCallM sp_law_pick (aCons (dVar 0) (aCons (dC (.int 4)) (aNil)))) (dC (.int 0)))) (dAsg (dOp ixD (dVar 5) (dOp ixD (dLst (aCons (dC (.int 0)) (aCons (dCallM sp_law_pick (aCons (dVar 0) (aCons (dCB lenC (aCons (dVar 5) (aNil))) (aNil)))) (aCons (dOp subD (dCB lenC (aCons (dVar 5) (aNil))) (dC (.int 1))) (aNil))))) (dCallM sp_law_pick (aCons (dVar 0) (aCons (dC (.int 3)) (aNil)))))) (dName 3)) (dNext)) (dSeq (dIfS (dB (dOp eqD (dCallM sp_law_pick (aCons (dVar 0) (aCons (dC (.int 2)) (aNil)))) (dC (.int 0)))) (dAsg (dTup (aCons (dOp addD (dOp ixD (dOp ixD (dVar 3) (dVar 7)) (dC (.int 0))) (dVar 6)) (aCons (dOp ixD (dOp ixD (dVar 3) (dVar 7)) (dC (.int 1))) (aNil)))) (dSub (dVar 3) (dVar 7) (setL))) (dAsg (dTup (aCons (dOp ixD (dOp ixD (dVar 3) (dVar 7)) (dC (.int 0))) (aCons (dOp addD (dOp ixD (dOp ixD (dVar 3) (dVar 7)) (dC (.int 1))) (dVar 6)) (aNil)))) (dSub (dVar 3) (dVar 7) (setL)))) (dRet (dTup (aCons (dCB tupleC (aCons (dVar 4) (aNil))) (aCons (dCB tupleC (aCons (dLc (iSeq (dVar 5)) (dName 8) (dYes) (dCB tupleC (aCons (dVar 8) (aNil))) [8] finL) (aNil))) (aNil))))))))))
theorem law_law_bent {a b c} (h : sp_law_bent a b c) : t_law_bent { nx := fun _ M' => c (.dat .none) M', rt := c } (startD ["_law_tape", "_law_grammar", "_law_sheet", "_law_row", "_law_z", "_law_h", "_law_more", "_law_name", "_law_line"] a) b := by
  obtain ⟨a, p, t, m, g, s, rfl, T, ht, sk, m0, m1, n0, n1, q⟩ := h
  refine ⟨_, _, rfl, rfl, _, rfl, fun pz hz => ⟨_, _, rfl, rfl, _, rfl, ?_, ?_⟩⟩
  · rw [List.length_map, List.length_map, sk.h]; omega
  refine lc_lists (enc := fun r => D.dat (encRow r)) (f := rowD) (fun _ => rfl) s.h (map_dat _ _) (fun r hr M K k => ⟨_, rfl, fun p hp => by
    have := k p hp
    rw [rowD_eq] at this
    exact this⟩) fun qs M1 h1 h2 h3 h4 h5 => ?_
  intro ph hph
  -- what is apart
  have Ts := T.some
  have T1 := T.new (o := .lst ((s.z.map encP).map D.dat)) hz
  have T1s := T1.some
  have za : pz ≠ a := ne_fresh hz Ts.1
  have zp : pz ≠ p := ne_fresh hz Ts.2
  have qa : a ∉ qs := fun h => ne_fresh (h3 a h) T1s.1 rfl
  have qp : p ∉ qs := fun h => ne_fresh (h3 p h) T1s.2 rfl
  have qz : pz ∉ qs := fun h => by have := h3 pz h; rw [updM_same] at this; cases this
  have T2 : Tape a p t M1 := T1.congr (h5 a qa) (h5 p qp)
  have T2s := T2.some
  have pa : ph ≠ a := ne_fresh hph T2s.1
  have pp : ph ≠ p := ne_fresh hph T2s.2
  have pz1 : M1 pz = some (.lst (rowD s.z)) := by rw [h5 pz qz, updM_same, rowD_eq]
  have pz' : ph ≠ pz := ne_fresh hph (by rw [pz1]; rfl)
  have pq : ph ∉ qs := fun h => by
    obtain ⟨j, hj⟩ := List.getElem?_of_mem h
    have hl : j < s.h.length := by rw [← h1]; exact (List.getElem?_eq_some_iff.mp hj).1
    rw [h4 j ph _ hj (List.getElem?_eq_getElem hl)] at hph
    cases hph
  have S0 : TS a p b (t + 10) t (updM M1 ph (.lst (qs.map .ref))) := by
    refine ⟨T2.new hph, by omega, fun x o x1 x2 hx => ?_⟩
    have xz : x ≠ pz := (ne_fresh hz (by rw [hx]; rfl)).symm
    have xq : x ∉ qs := fun h => by
      have := h3 x h
      rw [updM_ne xz, hx] at this; cases this
    have hx1 : M1 x = some o := by rw [h5 x xq, updM_ne xz]; exact hx
    rw [updM_ne (ne_fresh hph (by rw [hx1]; rfl)).symm]
    exact hx1
  have Z0 : (updM M1 ph (.lst (qs.map .ref))) pz = some (.lst (rowD s.z)) := by rw [updM_ne pz'.symm]; exact pz1
  have H0 : HL ph qs s.h (updM M1 ph (.lst (qs.map .ref))) := ⟨updM_same, h1, fun i q r i1 i2 => by
    rw [updM_ne (fun e => pq (by rw [← e]; exact List.mem_of_getElem? i1))]
    exact h4 i q r i1 i2⟩
  have h3' : ∀ x ∈ qs, b x = none := fun x hx => by
    have := h3 x hx
    rw [updM_ne (fun e => qz (by rw [← e]; exact hx))] at this
    exact this
  generalize (updM M1 ph (.lst (qs.map .ref))) = M2 at S0 Z0 H0 ⊢
  clear h3 h4 h5 hph T2s T2 pz1 T1 T1s
  have hql : qs.length = m := by rw [h1, sk.h]
  refine ⟨⟨by decide, by decide, by decide⟩, ⟨by decide, by decide, by decide⟩, ok16 rfl, a, p, _, 7, rfl, S0.1, by omega, by decide, by decide, fun i M3 hi k3 e3 => ?_⟩
  have S3 := S0.next (by omega) k3 e3
  have keep : ∀ {M M' : Mp}, Else a p M M' → M pz = some (.lst (rowD s.z)) → HL ph qs s.h M → M' pz = some (.lst (rowD s.z)) ∧ HL ph qs s.h M' := by
    intro M M' e z h
    refine ⟨(e pz za zp).trans z, h.mono fun x hx => ?_⟩
    rcases hx with rfl | hx
    · exact e _ pa pp
    · exact e x (fun z => qa (by rw [← z]; exact hx)) (fun z => qp (by rw [← z]; exact hx))
  obtain ⟨Z3, H3⟩ := keep e3 Z0 H0
  refine ⟨_, _, rfl, atI_ints (ns := [1, -1, 2, -3, 10 ^ (40 : Int).toNat, -(10 ^ (40 : Int).toNat), 1]) hi, ?_⟩
  generalize ([1, -1, 2, -3, 10 ^ (40 : Int).toNat, -(10 ^ (40 : Int).toNat), 1] : List Int).getD i 0 = v
  refine ⟨_, _, rfl, rfl, a, p, _, g.n, rfl, S3.1, by omega, n0, by omega, fun nm M4 hn k4 e4 => ?_⟩
  have S4 := S3.next (by omega) k4 e4
  obtain ⟨Z4, H4⟩ := keep e4 Z3 H3
  refine seq_mid (fun δ M => δ = [some (.ref a), some (.dat (encG g)), some (.dat (encSh s)), none, some (.ref pz), some (.ref ph), some (.dat (.int v)), some (.dat (encN nm)), none] ∧ M = M4) (fun K hK => hK _ _ ⟨rfl, rfl⟩) ?_
  rintro δ M ⟨rfl, rfl⟩
  refine seq_asg (d := .ref pz) (fun Q q => q) ?_
  refine seq_mid (fun δ M => ∃ (tt : Nat) (X : Addr), TS a p b (t + 10) tt M ∧ tt ≤ t + 6 ∧ M pz = some (.lst (rowD s.z)) ∧ HL ph qs s.h M ∧ (X = pz ∨ X ∈ qs) ∧ δ = [some (.ref a), some (.dat (encG g)), some (.dat (encSh s)), some (.ref X), some (.ref pz), some (.ref ph), some (.dat (.int v)), some (.dat (encN nm)), none]) (fun K hK => ?_) ?_
  · refine ⟨a, p, _, 4, rfl, S4.1, by omega, by decide, by decide, fun i M5 hi k5 e5 => ?_⟩
    have S5 := S4.next (by omega) k5 e5
    obtain ⟨Z5, H5⟩ := keep e5 Z4 H4
    refine if_b (fun e => ?_) fun e => ?_
    · refine ⟨_, seq_ref H5.top, ?_⟩
      rw [List.length_map, hql]
      refine ⟨a, p, _, m, rfl, S5.1, by omega, m0, by omega, fun j M6 hj k6 e6 => ?_⟩
      have S6 := S5.next (by omega) k6 e6
      obtain ⟨Z6, H6⟩ := keep e6 Z5 H5
      refine ⟨_, seq_ref H6.top, ?_⟩
      rw [List.length_map, hql]
      refine ⟨ok16 rfl, a, p, _, 3, rfl, S6.1, by omega, by decide, by decide, fun x M7 hx k7 e7 => ?_⟩
      have S7 := S6.next (by omega) k7 e7
      obtain ⟨Z7, H7⟩ := keep e7 Z6 H6
      obtain ⟨y, hy, ey⟩ : ∃ y : Nat, y < m ∧ ([0, ((j : Nat) : Int), ((m : Nat) : Int) - 1] : List Int).getD x 0 = ((y : Nat) : Int) := by
        match x, hx with
        | 0, _ => exact ⟨0, m0, rfl⟩
        | 1, _ => exact ⟨j, hj, rfl⟩
        | 2, _ => exact ⟨m - 1, by omega, by show ((m : Nat) : Int) - 1 = _; omega⟩
      refine ⟨_, _, rfl, atI_ints (ns := [0, ((j : Nat) : Int), ((m : Nat) : Int) - 1]) hx, ?_⟩
      rw [ey]
      have eq := List.getElem?_eq_getElem (l := qs) (i := y) (by omega)
      exact ⟨_, _, seq_ref H7.top, atI_mapD eq, hK _ _ ⟨_, _, S7, by omega, Z7, H7, .inr (List.mem_of_getElem? eq), rfl⟩⟩
    · exact hK _ _ ⟨_, pz, S5, by omega, Z5, H5, .inl rfl, rfl⟩
  · rintro δ M ⟨tt, X, S5, htt, Z5, H5, hX, rfl⟩
    refine seq_mid (fun δ M => ∃ (tt : Nat) (s' : Sh), ShOk g.n m s' ∧ TS a p b (t + 10) tt M ∧ M pz = some (.lst (rowD s'.z)) ∧ HL ph qs s'.h M ∧ δ = [some (.ref a), some (.dat (encG g)), some (.dat (encSh s)), some (.ref X), some (.ref pz), some (.ref ph), some (.dat (.int v)), some (.dat (encN nm)), none]) (fun K hK => ?_) ?_
    · refine ⟨a, p, _, 2, rfl, S5.1, by omega, by decide, by decide, fun i M6 hi k6 e6 => ?_⟩
      have S6 := S5.next (by omega) k6 e6
      obtain ⟨Z6, H6⟩ := keep e6 Z5 H5
      -- what the row holds, what is done with it
      have hr : ∃ r : Row, r.length = g.n ∧ M6 X = some (.lst (rowD r)) ∧ X ≠ a ∧ X ≠ p ∧ b X = none ∧ ∀ r' : Row, r'.length = g.n → ∃ s' : Sh, ShOk g.n m s' ∧ updM M6 X (.lst (rowD r')) pz = some (.lst (rowD s'.z)) ∧ HL ph qs s'.h (updM M6 X (.lst (rowD r'))) := by
        rcases hX with rfl | hX
        · refine ⟨s.z, sk.z, Z6, za, zp, hz, fun r' hr' => ⟨⟨r', s.h⟩, ⟨hr', sk.h, sk.r⟩, updM_same, H6.mono fun x hx => updM_ne ?_⟩⟩
          rcases hx with rfl | hx
          · exact pz'
          · exact fun e => qz (by rw [← e]; exact hx)
        · obtain ⟨j, hj⟩ := List.getElem?_of_mem hX
          have hl : j < s.h.length := by rw [← h1]; exact (List.getElem?_eq_some_iff.mp hj).1
          refine ⟨s.h[j], sk.r _ (List.getElem_mem hl), H6.row j X _ hj (List.getElem?_eq_getElem hl), fun e => qa (by rw [← e]; exact hX), fun e => qp (by rw [← e]; exact hX), ?_, fun r' hr' => ⟨⟨s.z, s.h.set j r'⟩, ⟨sk.z, by rw [List.length_set]; exact sk.h, fun row hrow => ?_⟩, ?_, H6.set h2 pq hj r'⟩⟩
          · have := h3' X hX
            exact this
          · rcases List.mem_or_eq_of_mem_set hrow with h | rfl
            · exact sk.r _ h
            · exact hr'
          · rw [updM_ne (fun e => qz (by rw [e]; exact hX))]; exact Z6
      obtain ⟨r, hrl, hrM, xa, xp, bX, put⟩ := hr
      have er : r[nm]? = some (at2 r nm) := at2_get (by omega)
      have done : ∀ x : PI, K [some (.ref a), some (.dat (encG g)), some (.dat (encSh s)), some (.ref X), some (.ref pz), some (.ref ph), some (.dat (.int v)), some (.dat (encN nm)), none] (updM M6 X (.lst ((rowD r).set nm (.dat (encP x))))) := by
        intro x
        rw [rowD_set]
        obtain ⟨s', k1, k2, k3⟩ := put (r.set nm x) (by rw [List.length_set]; exact hrl)
        exact hK _ _ ⟨_, s', k1, ⟨S6.1.put xp xa, S6.2.1, S6.2.2.put bX⟩, k2, k3, rfl⟩
      refine if_b (fun e => ?_) fun e => ?_
      · refine ⟨_, _, seq_ref hrM, atI_mapD er, _, _, rfl, atI_nat (i := 0) rfl, _, _, seq_ref hrM, atI_mapD er, _, _, rfl, atI_nat (i := 1) rfl, ok16 rfl, _, _, hrM, ixN_nat (by unfold rowD; rw [List.length_map]; omega), done ((at2 r nm).1 + v, (at2 r nm).2)⟩
      · refine ⟨_, _, seq_ref hrM, atI_mapD er, _, _, rfl, atI_nat (i := 0) rfl, _, _, seq_ref hrM, atI_mapD er, _, _, rfl, atI_nat (i := 1) rfl, ok16 rfl, _, _, hrM, ixN_nat (by unfold rowD; rw [List.length_map]; omega), done ((at2 r nm).1, (at2 r nm).2 + v)⟩
    · rintro δ M ⟨tt, s', k1, S6, Z6, H6, rfl⟩
      refine ⟨_, _, seq_ref Z6, by rw [rowD_eq]; exact datsOf_map _, _, seq_ref H6.top, by rw [List.length_map]; omega, H6.out (fun q hq r hr K k => ⟨_, _, seq_ref hr, by rw [rowD_eq]; exact datsOf_map _, k⟩) (finL_map encRow _ ?_)⟩
      exact ⟨_, _, rfl, datsOf_map _, ok16 rfl, q s' M tt k1 S6.1 S6.2.1 S6.2.2⟩
end DL
set_option Elab.async false
set_option linter.all false
set_option maxRecDepth 100000
set_option maxHeartbeats 4000000
namespace DL
open PySem PySem.Spec PyProof.Rows L2
/-! PLe: what is no sheet. -/
theorem fits_iff {ps : List PyData} : fits ps = true ↔ ∀ p ∈ ps, fit p = true := by
  induction ps with
  | nil => exact ⟨fun _ p h => (by cases h), fun _ => rfl⟩
  | cons q ps ih =>
    rw [show fits (q :: ps) = (fit q && fits ps) from rfl, Bool.and_eq_true_iff, ih]
    constructor
    · rintro ⟨h1, h2⟩ p hp
      rcases List.mem_cons.mp hp with rfl | hp
      · exact h1
      · exact h2 p hp
    · intro h
      exact ⟨h q List.mem_cons_self, fun p hp => h p (List.mem_cons_of_mem _ hp)⟩
theorem fit_tup_mk {ps : List PyData} (h : ∀ p ∈ ps, fit p = true) (hl : ps.length ≤ 1000) : fit (.tuple ps) = true := by
  show (fits ps && decide (ps.length ≤ 1000)) = true
  rw [fits_iff.mpr h, decide_eq_true hl]; rfl
theorem fit_lst_mk {ps : List PyData} (h : ∀ p ∈ ps, fit p = true) (hl : ps.length ≤ 1000) : fit (.list ps) = true := by
  show (fits ps && decide (ps.length ≤ 1000)) = true
  rw [fits_iff.mpr h, decide_eq_true hl]; rfl
theorem fit_P (p : PI) : fit (encP p) = true := rfl
theorem fit_row {r : Row} (h : r.length ≤ 1000) : fit (encRow r) = true := fit_tup_mk (fun p hp => by
  obtain ⟨q, _, rfl⟩ := List.mem_map.mp hp
  exact fit_P q) (by rw [List.length_map]; exact h)
theorem fit_rows {n : Nat} {h : List Row} (hn : n ≤ 1000) (hr : ∀ r ∈ h, r.length = n) : ∀ p ∈ h.map encRow, fit p = true := fun p hp => by
  obtain ⟨q, hq, rfl⟩ := List.mem_map.mp hp
  exact fit_row (by rw [hr q hq]; exact hn)
theorem fit_sh {n m : Nat} {s : Sh} (k : ShOk n m s) (hn : n ≤ 1000) (hm : m ≤ 1000) : fit (encSh s) = true := fit_tup_mk (fun p hp => by
  rcases List.mem_cons.mp hp with rfl | hp
  · exact fit_row (by rw [k.z]; exact hn)
  · rcases List.mem_singleton.mp hp with rfl
    exact fit_tup_mk (fit_rows hn k.r) (by rw [List.length_map, k.h]; exact hm)) (by show 2 ≤ 1000; decide)
theorem row_ok {n : Nat} {r : Row} (h : r.length = n) : isRowP n (encRow r) = true := by
  show (decide _ && List.all _ _) = true
  rw [List.length_map, decide_eq_true h, List.all_map, Bool.true_and, List.all_eq_true]
  intro p _; rfl
theorem sheet_ok {n m : Nat} {s : Sh} (k : ShOk n m s) : isSheetP n m (encSh s) = true := by
  show (isRowP n (encRow s.z) && (decide ((s.h.map encRow).length = m) && List.all _ _)) = true
  rw [row_ok k.z, List.length_map, decide_eq_true k.h, List.all_map, Bool.true_and, Bool.true_and, List.all_eq_true]
  intro r hr
  exact row_ok (k.r r hr)
theorem atI_mem {ps : List PyData} {i : Nat} (h : i < ps.length) : ∃ x ∈ ps, atI (ps.map D.dat) (i : Int) = some (.dat x) := by
  refine ⟨ps[i], List.getElem_mem h, atI_nat ?_⟩
  rw [List.getElem?_map, List.getElem?_eq_getElem h]; rfl
theorem cutL_mem {α : Type} {ps : List α} {lo hi : Option Int} {x : α} (h : x ∈ cutL ps lo hi) : x ∈ ps := List.mem_of_mem_drop (List.mem_of_mem_take h)
theorem cutL_len {α : Type} {ps : List α} {lo hi : Option Int} : (cutL ps lo hi).length ≤ ps.length := by
  unfold cutL
  rw [List.length_take, List.length_drop]; omega
def NoSheet (n m : Nat) (d : PyData) : Prop := fit d = true ∧ isSheetP n m d = false
theorem no_row {n m : Nat} {x y : PyData} (fx : fit x = true) (fy : fit y = true) (h : isRowP n x = false ∨ rowsP n m y = false) : NoSheet n m (.tuple [x, y]) := by
  refine ⟨fit_tup_mk (fun p hp => ?_) (by show 2 ≤ 1000; decide), ?_⟩
  · rcases List.mem_cons.mp hp with rfl | hp
    · exact fx
    · rcases List.mem_singleton.mp hp with rfl
      exact fy
  · show (isRowP n x && rowsP n m y) = false
    rcases h with h | h
    · rw [h]; rfl
    · rw [h, Bool.and_false]
theorem row_bad {n : Nat} {ps : List PyData} (h : (∃ p ∈ ps, isPairP p = false) ∨ ps.length ≠ n) : isRowP n (.tuple ps) = false := by
  show (decide _ && List.all _ _) = false
  rcases h with ⟨p, hp, e⟩ | h
  · rw [List.all_eq_false.mpr ⟨p, hp, by rw [e]; exact Bool.false_ne_true⟩, Bool.and_false]
  · rw [decide_eq_false h]; rfl
theorem rows_bad {n m : Nat} {ps : List PyData} (h : (∃ p ∈ ps, isRowP n p = false) ∨ ps.length ≠ m) : rowsP n m (.tuple ps) = false := by
  show (decide _ && List.all _ _) = false
  rcases h with ⟨p, hp, e⟩ | h
  · rw [List.all_eq_false.mpr ⟨p, hp, by rw [e]; exact Bool.false_ne_true⟩, Bool.and_false]
  · rw [decide_eq_false h]; rfl
def sp_law_no_sheet : MSp := fun ds M Q => ∃ (a p : Addr) (t n m : Nat) (s : Sh), ds = [.ref a, .dat (encSh s)] ∧ Tape a p t M ∧ t ≤ 500000 ∧ ShOk n m s ∧ 0 < m ∧ m ≤ 900 ∧ 0 < n ∧ n ≤ 900 ∧
  ∀ (d : PyData) M' t', NoSheet n m d → Tape a p t' M' → t' ≤ t + 10 → Keeps a p M M' → Q (.dat d) M'
theorem len_law_no_sheet {a b c} (h : sp_law_no_sheet a b c) : a.length = 2 := by
  obtain ⟨a, p, t, n, m, s, rfl, _⟩ := h; rfl
def t_law_no_sheet : DS :=
  dSeq (dAsg (dVar 1) (dTupG 2 (gsCons (dName 2) (gsCons (dName 3) (gsNil))))) (dSeq (dAsg (dCallM sp_law_pick (aCons (dVar 0) (aCons (dC (.int 13)) (aNil)))) (dName 4)) (dSeq (dIfS (dB (dOp ltD (dVar 4) (dC (.int 6)))) (dRet (dOp ixD (dLst (aCons (dC .none) (aCons (dTup (aNil)) (aCons (dTup (aCons (dVar 2) (aNil))) (aCons (dLst (aCons (dVar 2) (aCons (dVar 3) (aNil)))) (aCons (dTup (aCons (dCB listC (aCons (dVar 2) (aNil))) (aCons (dVar 3) (aNil)))) (aCons (dTup (aCons (dVar 2) (aCons (dVar 3) (aCons (dTup (aNil)) (aNil))))) (aNil)))))))) (dVar 4))) (dNext)) (dSeq (dIfS (dB (dOp ltD (dVar 4) (dC (.int 10)))) (dRet (dOp ixD (dLst (aCons (dTup (aCons (dVar 2) (aCons (dCB listC (aCons (dVar 3) (aNil))) (aNil)))) (aCons (dTup (aCons (dVar 2) (aCons (dOp addD (dVar 3) (dTup (aCons (dVar 2) (aNil)))) (aNil)))) (aCons (dTup (aCons (dOp addD (dVar 2) (dTup (aCons (dTup (aCons (dC (.int 0)) (aCons (dC (.int 0)) (aNil)))) (aNil)))) (aCons (dVar 3) (aNil)))) (aCons (dTup (aCons (dVar 2) (aCons (dOp addD (dTup (aCons (dCB listC (aCons (dOp ixD (dVar 3) (dC (.int 0))) (aNil))) (aNil))) (dSl (dVar 3) (oSome (dC (.int 1))) (oNone))) (aNil)))) (aNil)))))) (dOp subD (dVar 4) (dC (.int 6))))) (dNext)) (dSeq (dAsg (dOp ixD (dLst (aCons (dTup (aCons (dTup (aCons (dC (.int 1)) (aCons (dC (.bool true)) (aNil)))) (aNil))) (aCons (dTup (aCons (dTup (aCons (dC (.int 0)) (aNil))) (aNil))) (aCons (dTup (aCons (dLst (aCons (dC (.int 0)) (aCons (dC (.int 0)) (aNil)))) (aNil))) (aNil))))) (dOp subD (dVar 4) (dC (.int 10)))) (dName 5)) (dSeq (dAsg (dCallM sp_law_pick (aCons (dVar 0) (aCons (dOp addD (dCB lenC (aCons (dVar 3) (aNil))) (dC (.int 1))) (aNil)))) (dName 6)) (dSeq (dIfS (dB (dOp eqD (dVar 6) (dCB lenC (aCons (dVar 3) (aNil))))) (dRet (dTup (aCons (dOp addD (dSl (dVar 2) (oNone) (oSome (dUn negD (dC (.int 1))))) (dVar 5)) (aCons (dVar 3) (aNil))))) (dNext)) (dRet (dTup (aCons (dVar 2) (aCons (dOp addD (dOp addD (dSl (dVar 3) (oNone) (oSome (dVar 6))) (dTup (aCons (dOp addD (dSl (dOp ixD (dVar 3) (dVar 6)) (oNone) (oSome (dUn negD (dC (.int 1))))) (dVar 5)) (aNil)))) (dSl (dVar 3) (oSome (dOp addD (dVar 6) (dC (.int 1)))) (oNone))) (aNil)))))))))))
theorem law_law_no_sheet {a b c} (h : sp_law_no_sheet a b c) : t_law_no_sheet { nx := fun _ M' => c (.dat .none) M', rt := c } (startD ["_law_tape", "_law_sheet", "_law_z", "_law_h", "_law_kind", "_law_odd", "_law_at"] a) b := by
  obtain ⟨a, p, t, n, m, s, rfl, T, ht, sk, m0, m1, n0, n1, q⟩ := h
  have fz : fit (encRow s.z) = true := fit_row (by rw [sk.z]; omega)
  have fhs : ∀ p ∈ s.h.map encRow, fit p = true := fit_rows (n := n) (by omega) sk.r
  have hzl : (s.z.map encP).length = n := by rw [List.length_map, sk.z]
  have hhl : (s.h.map encRow).length = m := by rw [List.length_map, sk.h]
  have fh : fit (.tuple (s.h.map encRow)) = true := fit_tup_mk fhs (by omega)
  have fzs : ∀ p ∈ s.z.map encP, fit p = true := fun p hp => by
    obtain ⟨q, _, rfl⟩ := List.mem_map.mp hp
    exact fit_P q
  refine ⟨rfl, rfl, a, p, _, 13, rfl, T, by omega, by decide, by decide, fun k M1 hk k1 e1 => ?_⟩
  refine if_b (fun e => ?_) fun e => ?_
  · have hk6 : k < 6 := by have := of_decide_eq_true e; omega
    have good : ∀ x ∈ [PyData.none, .tuple [], .tuple [encRow s.z], .list [encRow s.z, .tuple (s.h.map encRow)], .tuple [.list (s.z.map encP), .tuple (s.h.map encRow)], .tuple [encRow s.z, .tuple (s.h.map encRow), .tuple []]], NoSheet n m x := by
      have f0 : fit (.tuple []) = true := rfl
      intro x hx
      simp only [List.mem_cons, List.not_mem_nil, or_false] at hx
      rcases hx with rfl | rfl | rfl | rfl | rfl | rfl
      · exact ⟨rfl, rfl⟩
      · exact ⟨rfl, rfl⟩
      · exact ⟨fit_tup_mk (fun p hp => by rcases List.mem_singleton.mp hp with rfl; exact fz) (by show 1 ≤ 1000; decide), rfl⟩
      · refine ⟨fit_lst_mk (fun p hp => ?_) (by show 2 ≤ 1000; decide), rfl⟩
        simp only [List.mem_cons, List.not_mem_nil, or_false] at hp
        rcases hp with rfl | rfl
        · exact fz
        · exact fh
      · exact no_row (fit_lst_mk fzs (by omega)) fh (.inl rfl)
      · refine ⟨fit_tup_mk (fun p hp => ?_) (by show 3 ≤ 1000; decide), rfl⟩
        simp only [List.mem_cons, List.not_mem_nil, or_false] at hp
        rcases hp with rfl | rfl | rfl
        · exact fz
        · exact fh
        · exact f0
    obtain ⟨x, hx, ex⟩ := atI_mem (ps := [PyData.none, .tuple [], .tuple [encRow s.z], .list [encRow s.z, .tuple (s.h.map encRow)], .tuple [.list (s.z.map encP), .tuple (s.h.map encRow)], .tuple [encRow s.z, .tuple (s.h.map encRow), .tuple []]]) hk6
    exact ⟨ok16 rfl, ok16 rfl, ok16 rfl, _, _, rfl, datsOf_map _, ok16 rfl, ok16 rfl, ok16 rfl, ok16 rfl, _, _, rfl, ex, q x M1 _ (good x hx) k1 (by omega) e1.keeps⟩
  have hk6 : 6 ≤ k := by have := of_decide_eq_false e; omega
  refine if_b (fun e => ?_) fun e => ?_
  · have hk10 : k - 6 < 4 := by have := of_decide_eq_true e; omega
    obtain ⟨r0, rs, er⟩ : ∃ r0 rs, s.h = r0 :: rs := by
      cases hh : s.h with
      | nil => rw [List.length_map, hh] at hhl; simp at hhl; omega
      | cons r0 rs => exact ⟨r0, rs, rfl⟩
    have good : ∀ x ∈ [PyData.tuple [encRow s.z, .list (s.h.map encRow)], .tuple [encRow s.z, .tuple (s.h.map encRow ++ [encRow s.z])], .tuple [.tuple (s.z.map encP ++ [.tuple [.int 0, .int 0]]), .tuple (s.h.map encRow)], .tuple [encRow s.z, .tuple ([.list (r0.map encP)] ++ cutL (s.h.map encRow) (some 1) none)]], NoSheet n m x := by
      intro x hx
      simp only [List.mem_cons, List.not_mem_nil, or_false] at hx
      rcases hx with rfl | rfl | rfl | rfl
      · exact no_row fz (fit_lst_mk fhs (by omega)) (.inr rfl)
      · refine no_row fz (fit_tup_mk (fun p hp => ?_) (by rw [List.length_append, hhl]; show m + 1 ≤ 1000; omega)) (.inr (rows_bad (.inr (by rw [List.length_append, hhl]; show m + 1 ≠ m; omega))))
        rcases List.mem_append.mp hp with hp | hp
        · exact fhs p hp
        · rcases List.mem_singleton.mp hp with rfl
          exact fz
      · refine no_row (fit_tup_mk (fun p hp => ?_) (by rw [List.length_append, hzl]; show n + 1 ≤ 1000; omega)) fh (.inl (row_bad (.inr (by rw [List.length_append, hzl]; show n + 1 ≠ n; omega))))
        rcases List.mem_append.mp hp with hp | hp
        · exact fzs p hp
        · rcases List.mem_singleton.mp hp with rfl
          rfl
      · have hl := cutL_len (ps := s.h.map encRow) (lo := some 1) (hi := none)
        refine no_row fz (fit_tup_mk (fun p hp => ?_) (by rw [List.length_append]; show 1 + _ ≤ 1000; omega)) (.inr (rows_bad (.inl ⟨_, List.mem_append_left _ List.mem_cons_self, rfl⟩)))
        rcases List.mem_append.mp hp with hp | hp
        · rcases List.mem_singleton.mp hp with rfl
          have hr := sk.r r0 (by rw [er]; exact List.mem_cons_self)
          exact fit_lst_mk (fun p hp => by
            obtain ⟨q, _, rfl⟩ := List.mem_map.mp hp
            exact fit_P q) (by rw [List.length_map, hr]; omega)
        · exact fhs p (cutL_mem hp)
    obtain ⟨x, hx, ex⟩ := atI_mem (ps := [PyData.tuple [encRow s.z, .list (s.h.map encRow)], .tuple [encRow s.z, .tuple (s.h.map encRow ++ [encRow s.z])], .tuple [.tuple (s.z.map encP ++ [.tuple [.int 0, .int 0]]), .tuple (s.h.map encRow)], .tuple [encRow s.z, .tuple ([.list (r0.map encP)] ++ cutL (s.h.map encRow) (some 1) none)]]) hk10
    rw [show ((k - 6 : Nat) : Int) = ((k : Nat) : Int) - 6 by omega] at ex
    have e0 : (s.h.map encRow)[0]? = some (encRow r0) := by rw [er]; rfl
    have hcl := cutL_len (ps := s.h.map encRow) (lo := some 1) (hi := none)
    refine ⟨_, _, rfl, datsOf_map _, ok16 rfl, ok16 rfl, ?_, ok16 rfl, ok16 rfl, ok16 rfl, ?_, ok16 rfl, _, _, rfl, atI_nat (i := 0) (by rw [List.getElem?_map, e0]; rfl), _, _, rfl, datsOf_map _, ok16 rfl, ?_, ok16 rfl, ok16 rfl, _, _, rfl, ex, q x M1 _ (good x hx) k1 (by omega) e1.keeps⟩
    · show (s.h.map encRow).length + 1 ≤ _; omega
    · show (s.z.map encP).length + 1 ≤ _; omega
    · show 1 + (cutL (s.h.map encRow) (some 1) none).length ≤ _; omega
  have hk10 : 10 ≤ k := by have := of_decide_eq_false e; omega
  obtain ⟨odd, hodd, eodd⟩ := atI_mem (ps := [PyData.tuple [.tuple [.int 1, .bool true]], .tuple [.tuple [.int 0]], .tuple [.list [.int 0, .int 0]]]) (i := k - 10) (by show k - 10 < 3; omega)
  rw [show ((k - 10 : Nat) : Int) = ((k : Nat) : Int) - 10 by omega] at eodd
  obtain ⟨o, rfl, fo, bo⟩ : ∃ o, odd = .tuple [o] ∧ fit o = true ∧ isPairP o = false := by
    simp only [List.mem_cons, List.not_mem_nil, or_false] at hodd
    rcases hodd with rfl | rfl | rfl
    · exact ⟨_, rfl, rfl, rfl⟩
    · exact ⟨_, rfl, rfl, rfl⟩
    · exact ⟨_, rfl, rfl, rfl⟩
  have e4 : ((s.h.map encRow).map D.dat).length = m := by rw [List.length_map, hhl]
  have badrow : ∀ (r : Row), r.length = n → fit (.tuple (cutL (r.map encP) none (some (-1)) ++ [o])) = true ∧ isRowP n (.tuple (cutL (r.map encP) none (some (-1)) ++ [o])) = false := by
    intro r hr
    have hl := cutL_len (ps := r.map encP) (lo := none) (hi := some (-1))
    rw [List.length_map, hr] at hl
    refine ⟨fit_tup_mk (fun p hp => ?_) (by rw [List.length_append]; show _ + 1 ≤ 1000; omega), row_bad (.inl ⟨o, by simp, bo⟩)⟩
    rcases List.mem_append.mp hp with hp | hp
    · obtain ⟨q, _, rfl⟩ := List.mem_map.mp (cutL_mem hp)
      exact fit_P q
    · rcases List.mem_singleton.mp hp with rfl
      exact fo
  refine ⟨ok16 rfl, ok16 rfl, ok16 rfl, ok16 rfl, ok16 rfl, ok16 rfl, ok16 rfl, _, _, rfl, eodd, _, rfl, ?_⟩
  rw [e4]
  refine ⟨a, p, _, m + 1, rfl, k1, by omega, by omega, by omega, fun at_ M2 hat k2 e2 => ⟨_, rfl, ?_⟩⟩
  rw [e4]
  have hzl2 := cutL_len (ps := s.z.map encP) (lo := none) (hi := some (-1))
  refine if_b (fun e => ?_) fun e => ?_
  · obtain ⟨b1, b2⟩ := badrow s.z sk.z
    refine ⟨?_, ok16 rfl, q _ M2 _ (no_row b1 fh (.inl b2)) k2 (by omega) (e1.keeps.trans e2.keeps)⟩
    show (cutL (s.z.map encP) none (some (-1))).length + 1 ≤ _; omega
  · have hne : at_ ≠ m := by have := of_decide_eq_false e; omega
    have hlt : at_ < m := by omega
    have hl : at_ < s.h.length := by rw [sk.h]; exact hlt
    have eg : s.h[at_]? = some s.h[at_] := List.getElem?_eq_getElem hl
    have hrl := sk.r s.h[at_] (List.getElem_mem hl)
    obtain ⟨b1, b2⟩ := badrow s.h[at_] hrl
    have c1 := cutL_len (ps := s.h[at_].map encP) (lo := none) (hi := some (-1))
    rw [List.length_map, hrl] at c1
    have t1 : (cutL (s.h.map encRow) none (some ((at_ : Nat) : Int))).length ≤ at_ := by rw [cut_to, List.length_take]; omega
    have t2 : (cutL (s.h.map encRow) (some (((at_ : Nat) : Int) + 1)) none).length = m - (at_ + 1) := by
      rw [show (((at_ : Nat) : Int) + 1) = ((at_ + 1 : Nat) : Int) by omega, cut_from, List.length_drop, hhl]
    refine ⟨_, _, rfl, atI_map (f := encRow) eg, ?_, ok16 rfl, ?_, ?_, ok16 rfl, q _ M2 _ (no_row fz (fit_tup_mk ?_ ?_) (.inr (rows_bad (.inl ⟨_, List.mem_append_left _ (List.mem_append_right _ List.mem_cons_self), b2⟩)))) k2 (by omega) (e1.keeps.trans e2.keeps)⟩
    · show (cutL (s.h[at_].map encP) none (some (-1))).length + 1 ≤ _; omega
    · show (cutL (s.h.map encRow) none (some ((at_ : Nat) : Int))).length + 1 ≤ _; omega
    · show (cutL (s.h.map encRow) none (some ((at_ : Nat) : Int)) ++ [_]).length + (cutL (s.h.map encRow) (some (((at_ : Nat) : Int) + 1)) none).length ≤ _
      rw [List.length_append, List.length_singleton]; omega
    · intro p hp
      rcases List.mem_append.mp hp with hp | hp
      · rcases List.mem_append.mp hp with hp | hp
        · exact fhs p (cutL_mem hp)
        · rcases List.mem_singleton.mp hp with rfl
          exact b1
      · exact fhs p (cutL_mem hp)
    · show ((cutL (s.h.map encRow) none (some ((at_ : Nat) : Int)) ++ [_]) ++ (cutL (s.h.map encRow) (some (((at_ : Nat) : Int) + 1)) none)).length ≤ _
      rw [List.length_append, List.length_append, List.length_singleton]; omega
end DL
set_option Elab.async false
set_option linter.all false
set_option maxRecDepth 100000
set_option maxHeartbeats 4000000
namespace DL
open PySem PySem.Spec PyProof.Rows L2
/-! PLf: trees that are drawn. -/
structure SymOk (s : Sym) : Prop where
  sym : isSymP (encS s) = true
  str : PyData.strOk s.1 = true
  len : s.1.length ≤ 1000
theorem rowP_cons {n : Nat} {s : Sym} {ps : List PyData} (h : isSymP (encS s) = true) : rowP ((n + 1 : Nat) : Int) (encS s :: ps) = rowP ((n + s.2 : Nat) : Int) ps := by
  rw [rowP, h, decide_eq_false (by omega)]
  show rowP (((n + 1 : Nat) : Int) + ((s.2 : Nat) : Int) - 1) ps = _
  rw [show ((n + 1 : Nat) : Int) + ((s.2 : Nat) : Int) - 1 = ((n + s.2 : Nat) : Int) by omega]
/-- a row that is a tree has all the nodes it wants -/
theorem row_wf : ∀ (t : Tr) (n k : Nat), rowP ((n : Nat) : Int) (t.map encS) = true → (roots k t).length = n ∧ ∀ (j : Nat) (s : Sym), t[j]? = some s → s.2 ≤ (roots (k + j + 1) (t.drop (j + 1))).length
  | [], n, k, h => by
    have h' : ((n : Nat) : Int) = 0 := of_decide_eq_true h
    exact ⟨by show 0 = n; omega, fun j s e => by rw [List.getElem?_nil] at e; cases e⟩
  | s :: t, n, k, h => by
    rw [List.map_cons, rowP] at h
    obtain ⟨h0, h1⟩ := Bool.and_eq_true_iff.mp h
    obtain ⟨h2, h3⟩ := Bool.and_eq_true_iff.mp h1
    have hn : ((n : Nat) : Int) ≠ 0 := by
      intro e
      rw [decide_eq_true e] at h0
      cases h0
    have h3' : rowP (((n - 1 + s.2 : Nat)) : Int) (t.map encS) = true := by
      rw [show (((n - 1 + s.2 : Nat)) : Int) = ((n : Nat) : Int) + ((s.2 : Nat) : Int) - 1 by omega]
      exact h3
    obtain ⟨e1, e2⟩ := row_wf t (n - 1 + s.2) (k + 1) h3'
    refine ⟨?_, fun j s' e => ?_⟩
    · rw [roots, List.length_cons, List.length_drop, e1]; omega
    · cases j with
      | zero =>
        cases e
        show s.2 ≤ (roots (k + 1) t).length
        rw [e1]; omega
      | succ j =>
        have := e2 j s' e
        rw [show k + (j + 1) + 1 = k + 1 + j + 1 by omega]
        exact this
theorem tree_wf {t : Tr} (h : isTreeP (encT t) = true) : Wf t ∧ (RT t 0).length = 1 ∧ t ≠ [] := by
  obtain ⟨h1, h2⟩ := row_wf t 1 0 h
  refine ⟨fun k s e => ?_, h1, fun e => by subst e; cases h⟩
  have := h2 k s e
  rw [Nat.zero_add] at this
  exact this
structure TreeOk (t : Tr) : Prop where
  tree : isTreeP (encT t) = true
  syms : ∀ s ∈ t, SymOk s
  few : t.length ≤ 100
theorem TreeOk.ok {t : Tr} (h : TreeOk t) : TrOk t := ⟨(tree_wf h.tree).1, by have := h.few; omega, fun s hs => (h.syms s hs).str⟩
theorem TreeOk.ne {t : Tr} (h : TreeOk t) : t ≠ [] := (tree_wf h.tree).2.2
theorem fit_S {s : Sym} (h : s.1.length ≤ 1000) : fit (encS s) = true := by
  refine fit_tup_mk (fun p hp => ?_) (by show 2 ≤ 1000; decide)
  simp only [List.mem_cons, List.not_mem_nil, or_false] at hp
  rcases hp with rfl | rfl
  · exact decide_eq_true h
  · rfl
theorem TreeOk.fit {t : Tr} (h : TreeOk t) : fit (encT t) = true := fit_tup_mk (fun p hp => by
  obtain ⟨s, hs, rfl⟩ := List.mem_map.mp hp
  exact fit_S (h.syms s hs).len) (by rw [List.length_map]; have := h.few; omega)
theorem row_grow {row : Tr} {n : Nat} {s : Sym} (h : ∀ rest, rowP 1 (row.map encS ++ rest) = rowP ((n + 1 : Nat) : Int) rest) (hs : SymOk s) : ∀ rest, rowP 1 ((row ++ [s]).map encS ++ rest) = rowP ((n + s.2 : Nat) : Int) rest := by
  intro rest
  rw [List.map_append, List.append_assoc, h]
  exact rowP_cons hs.sym
theorem symsL_ok : ∀ s ∈ symsL, SymOk s := by
  intro s hs
  simp only [symsL, List.mem_cons, List.not_mem_nil, or_false] at hs
  rcases hs with rfl | rfl | rfl | rfl | rfl | rfl | rfl | rfl | rfl | rfl | rfl | rfl <;> exact ⟨by decide +kernel, by decide +kernel, by decide +kernel⟩
theorem map_exists {α β : Type} {f : β → α} {P : β → Prop} : ∀ {l : List α}, (∀ x ∈ l, ∃ y, P y ∧ x = f y) → ∃ ys : List β, l = ys.map f ∧ ∀ y ∈ ys, P y
  | [], _ => ⟨[], rfl, fun _ h => by cases h⟩
  | x :: l, h => by
    obtain ⟨y, hy, e⟩ := h x List.mem_cons_self
    obtain ⟨ys, e2, h2⟩ := map_exists fun z hz => h z (List.mem_cons_of_mem _ hz)
    exact ⟨y :: ys, by rw [e, e2]; rfl, fun z hz => by
      rcases List.mem_cons.mp hz with rfl | hz
      · exact hy
      · exact h2 z hz⟩
def sp_law_tree : MSp := fun ds M Q => ∃ (a p : Addr) (t : Nat) (g : Gr), ds = [.ref a, .dat (encG g)] ∧ Tape a p t M ∧ t ≤ 10000 ∧ g.rules ≠ [] ∧ g.rules.length ≤ 1000 ∧ (∀ r ∈ g.rules, SymOk r.sym) ∧
  ∀ (tr : Tr) M' t', TreeOk tr → Tape a p t' M' → t' ≤ t + 1000 → Keeps a p M M' → Q (.dat (encT tr)) M'
theorem len_law_tree {a b c} (h : sp_law_tree a b c) : a.length = 2 := by
  obtain ⟨a, p, t, g, rfl, _⟩ := h; rfl
def t_law_tree : DS :=
  dSeq (dIfS (dB (dOp eqD (dCallM sp_law_pick (aCons (dVar 0) (aCons (dC (.int 8)) (aNil)))) (dC (.int 1)))) (dSeq (dAsg (dLc (iRange (dC (.int 2))) (dName 8) (dYes) (dOp ixD (dLst (aCons (dC (.str (Str.ofString "s"))) (aCons (dC (.str (Str.ofString "t"))) (aCons (dC (.str (Str.ofString "i"))) (aNil))))) (dCallM sp_law_pick (aCons (dVar 0) (aCons (dC (.int 3)) (aNil))))) [8] finL) (dName 2)) (dRet (dOp addD (dCB tupleC (aCons (dLc (iRange (dOp addD (dC (.int 10)) (dCallM sp_law_pick (aCons (dVar 0) (aCons (dC (.int 50)) (aNil)))))) (dName 8) (dYes) (dTup (aCons (dOp ixD (dVar 2) (dCB intC (aCons (dOp eqD (dOp modD (dVar 8) (dC (.int 5))) (dC (.int 3))) (aNil)))) (aCons (dC (.int 1)) (aNil)))) [8] finL) (aNil))) (dTup (aCons (dTup (aCons (dC (.str (Str.ofString "n"))) (aCons (dC (.int 0)) (aNil)))) (aNil)))))) (dNext)) (dSeq (dAsg (dCB sortedC (aCons (dLc (iSeq (dOp ixD (dVar 1) (dC (.int 2)))) (dName 9) (dYes) (dTup (aCons (dOp ixD (dVar 9) (dC (.int 1))) (aCons (dCB lenC (aCons (dOp ixD (dVar 9) (dC (.int 2))) (aNil))) (aNil)))) [9] finL) (aNil))) (dName 3)) (dSeq (dIfS (dB (dOp eqD (dCallM sp_law_pick (aCons (dVar 0) (aCons (dC (.int 3)) (aNil)))) (dC (.int 0)))) (dAsg (dCallP sp_law_symbols aNil) (dName 3)) (dNext)) (dSeq (dAsg (dOp addD (dC (.int 1)) (dCallM sp_law_pick (aCons (dVar 0) (aCons (dC (.int 10)) (aNil))))) (dName 4)) (dSeq (dAsg (dLstM (aNil)) (dName 5)) (dSeq (dAsg (dC (.int 1)) (dName 6)) (dSeq (dWhile (dB (dOp gtD (dVar 6) (dC (.int 0)))) (dSeq (dAsg (dOp ixD (dVar 3) (dCallM sp_law_pick (aCons (dVar 0) (aCons (dCB lenC (aCons (dVar 3) (aNil))) (aNil))))) (dName 7)) (dSeq (dIfS (dB (dOp gtD (dOp addD (dOp addD (dCB lenC (aCons (dVar 5) (aNil))) (dVar 6)) (dOp ixD (dVar 7) (dC (.int 1)))) (dVar 4))) (dAsg (dOp ixD (dCallP sp_law_symbols aNil) (dCallM sp_law_pick (aCons (dVar 0) (aCons (dC (.int 5)) (aNil))))) (dName 7)) (dNext)) (dSeq (dDrop (dMeth appendM (dVar 5) (aCons (dVar 7) (aNil)))) (dAsg (dOp subD (dOp addD (dVar 6) (dOp ixD (dVar 7) (dC (.int 1)))) (dC (.int 1))) (dName 6)))))) (dRet (dCB tupleC (aCons (dVar 5) (aNil))))))))))
theorem row_comb : ∀ {l : Tr} {rest : List PyData}, (∀ s ∈ l, SymOk s ∧ s.2 = 1) → rowP 1 (l.map encS ++ rest) = rowP 1 rest
  | [], _, _ => rfl
  | s :: l, rest, h => by
    obtain ⟨h1, h2⟩ := h s List.mem_cons_self
    have := rowP_cons (n := 0) (ps := l.map encS ++ rest) h1.sym
    rw [h2] at this
    exact this.trans (row_comb fun x hx => h x (List.mem_cons_of_mem _ hx))
theorem word1_ok : ∀ w ∈ [("s" : Str), "t", "i"], SymOk (w, 1) := by
  intro w hw
  simp only [List.mem_cons, List.not_mem_nil, or_false] at hw
  rcases hw with rfl | rfl | rfl <;> exact ⟨by decide +kernel, by decide +kernel, by decide +kernel⟩
theorem law_law_tree {a b c} (h : sp_law_tree a b c) : t_law_tree { nx := fun _ M' => c (.dat .none) M', rt := c } (startD ["_law_tape", "_law_grammar", "_law_words", "_law_symbols_here", "_law_most", "_law_row", "_law_need", "_law_symbol", "_law_k", "_law_rule"] a) b := by
  obtain ⟨a, p, t, g, rfl, T, ht, hr0, hrl, hrs, q⟩ := h
  have S0 : TS a p b (t + 1000) t b := ⟨T, by omega, .refl⟩
  refine ⟨a, p, _, 8, rfl, T, by omega, by decide, by decide, fun i M1 hi k1 e1 => ?_⟩
  have S1 := S0.next (by omega) k1 e1
  refine if_b (fun e => ?_) fun e => ?_
  · refine ⟨⟨by decide, by decide⟩, by rw [upTo_len]; decide, lc_tape (β := Str) (dec := PyData.str) (P := fun w => w ∈ [("s" : Str), "t", "i"]) (J := fun k M => ∃ t', t' + k = t + 3 ∧ TS a p b (t + 1000) t' M) (fun _ _ _ => trivial) (List.range 2) (range_items 2) ⟨t + 1, by rw [List.length_range], S1⟩ (fun i hi k M K ⟨t', et, hM⟩ hK => ?_) fun ws M2 hw hws ⟨t2, et2, hM2⟩ => ?_⟩
    · refine ⟨ok16 rfl, a, p, _, 3, rfl, hM.1, by omega, by decide, by decide, fun j M2 hj k2 e2 => ?_⟩
      have S2 := hM.next (by omega) k2 e2
      obtain ⟨w, hw, ew⟩ : ∃ w ∈ [("s" : Str), "t", "i"], atI ([PyData.str "s", .str "t", .str "i"].map D.dat) ((j : Nat) : Int) = some (.dat (.str w)) := by
        match j, hj with
        | 0, _ => exact ⟨"s", by simp, rfl⟩
        | 1, _ => exact ⟨"t", by simp, rfl⟩
        | 2, _ => exact ⟨"i", by simp, rfl⟩
      exact ⟨_, _, rfl, ew, hK w M2 hw ⟨_, by omega, S2⟩⟩
    · refine finL_map PyData.str ws ?_
      obtain ⟨w0, w1, rfl⟩ : ∃ w0 w1, ws = [w0, w1] := by
        match ws, hw with
        | [x, y], _ => exact ⟨x, y, rfl⟩
      refine ⟨a, p, _, 50, rfl, hM2.1, by omega, by decide, by decide, fun j M3 hj k3 e3 => ?_⟩
      have S3 := hM2.next (by omega) k3 e3
      have hlr : (List.range (10 + j)).length = 10 + j := List.length_range
      refine ⟨⟨by omega, by omega⟩, by rw [upTo_len]; omega, lc_map (List.range (10 + j)) (fun k => D.dat (encN k)) (fun k => .dat (encS (if k % 5 = 3 then w1 else w0, 1))) (range_items (10 + j)) trivial (fun k hk K kk => ?_) (finL_map (fun k => encS (if k % 5 = 3 then w1 else w0, 1)) (List.range (10 + j)) ?_)⟩
      · refine ⟨by decide, ?_⟩
        by_cases e5 : k % 5 = 3
        · have e6 : decide ((((k : Nat) : Int) % 5) = 3) = true := decide_eq_true (by omega)
          rw [if_pos e5] at kk
          refine ⟨_, .dat (.str w1), rfl, ?_, ok16 rfl, kk⟩
          rw [e6]; exact atI_nat (i := 1) rfl
        · have e6 : decide ((((k : Nat) : Int) % 5) = 3) = false := decide_eq_false (by omega)
          rw [if_neg e5] at kk
          refine ⟨_, .dat (.str w0), rfl, ?_, ok16 rfl, kk⟩
          rw [e6]; exact atI_nat (i := 0) rfl
      · have hsy : ∀ s ∈ (List.range (10 + j)).map (fun k => ((if k % 5 = 3 then w1 else w0, 1) : Sym)), SymOk s ∧ s.2 = 1 := by
          intro s hs
          obtain ⟨k, hk, rfl⟩ := List.mem_map.mp hs
          refine ⟨word1_ok _ ?_, rfl⟩
          by_cases e5 : k % 5 = 3
          · rw [if_pos e5]; exact hws _ (by simp)
          · rw [if_neg e5]; exact hws _ (by simp)
        have em : (List.range (10 + j)).map (fun k => encS (if k % 5 = 3 then w1 else w0, 1)) = ((List.range (10 + j)).map (fun k => ((if k % 5 = 3 then w1 else w0, 1) : Sym))).map encS := by rw [List.map_map]; rfl
        rw [em]
        have hn : SymOk ("n", 0) := symsL_ok _ (by simp [symsL])
        have hq := q ((List.range (10 + j)).map (fun k => ((if k % 5 = 3 then w1 else w0, 1) : Sym)) ++ [(("n", 0) : Sym)]) M3 _ ⟨?_, ?_, ?_⟩ S3.1 (by omega) S3.2.2
        · unfold encT at hq
          rw [List.map_append] at hq
          refine ⟨_, _, rfl, datsOf_map _, ok16 rfl, ok16 rfl, ?_, hq⟩
          show List.length _ + 1 ≤ _
          rw [List.length_map, List.length_map, List.length_range]; omega
        · show rowP 1 (List.map encS _) = true
          rw [List.map_append, row_comb hsy]
          exact (rowP_cons (n := 0) hn.sym).trans rfl
        · intro s hs
          rcases List.mem_append.mp hs with hs | hs
          · exact (hsy s hs).1
          · rcases List.mem_singleton.mp hs with rfl
            exact hn
        · rw [List.length_append, List.length_map, List.length_range]
          show 10 + j + 1 ≤ 100; omega
  · refine ⟨_, _, rfl, rfl, _, rfl, by rw [List.length_map, List.length_map]; omega, lc_dat g.rules encR (fun r => encS r.sym) rfl (fun r hr K k => ⟨_, _, rfl, rfl, _, _, rfl, rfl, _, rfl, ok16 rfl, ?_⟩) ?_⟩
    · have e0 : ((r.parts.map encN).map D.dat).length = r.parts.length := by rw [List.length_map, List.length_map]
      rw [e0]
      exact k
    refine ⟨W.AllAlike.of (enc := fun r : Rl => encS r.sym) fun r r' => by simp [W.alike, W.alikeAll, encS], W.Sortable.tuples fun r => ⟨_, _, rfl⟩, by rw [List.length_map]; omega, fun x hx => ?_, fun qs hp => ?_⟩
    · obtain ⟨r, _, rfl⟩ := List.mem_map.mp hx
      simp [encS, PyData.depth, PyData.depthAll]
    obtain ⟨ss, rfl, hss⟩ := map_exists (f := encS) (P := SymOk) (l := qs) fun x hx => by
      obtain ⟨r, hr, rfl⟩ := List.mem_map.mp (hp.mem_iff.mp hx)
      exact ⟨r.sym, hrs r hr, rfl⟩
    have hsl : ss.length = g.rules.length := by have := hp.length_eq; rw [List.length_map, List.length_map] at this; exact this
    have hs0 : ss ≠ [] := fun e => by subst e; exact hr0 (List.eq_nil_of_length_eq_zero hsl.symm)
    refine seq_mid (fun δ M => δ = [some (.ref a), some (.dat (encG g)), none, some (.dat (.list (ss.map encS))), none, none, none, none, none, none] ∧ M = M1) (fun K hK => hK _ _ ⟨rfl, rfl⟩) ?_
    rintro δ M ⟨rfl, rfl⟩
    refine seq_mid (fun δ M => ∃ (tt : Nat) (ss : List Sym), ss ≠ [] ∧ ss.length ≤ 1000 ∧ (∀ s ∈ ss, SymOk s) ∧ TS a p b (t + 1000) tt M ∧ tt ≤ t + 3 ∧ δ = [some (.ref a), some (.dat (encG g)), none, some (.dat (.list (ss.map encS))), none, none, none, none, none, none]) (fun K hK => ?_) ?_
    · refine ⟨a, p, _, 3, rfl, S1.1, by omega, by decide, by decide, fun i M2 hi k2 e2 => ?_⟩
      have S2 := S1.next (by omega) k2 e2
      refine if_b (fun e => ?_) fun e => ?_
      · exact ⟨_, rfl, rfl, hK _ _ ⟨_, symsL, by simp [symsL], by simp [symsL], symsL_ok, S2, by omega, rfl⟩⟩
      · exact hK _ _ ⟨_, ss, hs0, by omega, hss, S2, by omega, rfl⟩
    clear hp hsl hs0 hss
    rintro δ M ⟨tt, ss, hs0, hsl, hss, S2, htt, rfl⟩
    have hs1 : 0 < ss.length := List.length_pos_iff.mpr hs0
    have e0 : ((ss.map encS).map D.dat).length = ss.length := by rw [List.length_map, List.length_map]
    refine ⟨a, p, _, 10, rfl, S2.1, by omega, by decide, by decide, fun mo M3 hmo k3 e3 => ⟨ok16 rfl, fun pr hpr => ?_⟩⟩
    have S3 := S2.next (by omega) k3 e3
    have hs3 := S3.1.some
    have ra : pr ≠ a := ne_fresh hpr hs3.1
    have rp : pr ≠ p := ne_fresh hpr hs3.2
    have hb0 : b pr = none := S3.2.2.fresh hpr ra rp
    refine ⟨fun m δ M => ∃ (row : Tr) (need t' : Nat) (o7 : Option D), (∀ s ∈ row, SymOk s) ∧ (∀ rest, rowP 1 (row.map encS ++ rest) = rowP ((need : Nat) : Int) rest) ∧ row.length + need ≤ 1 + mo ∧ m = 1 + mo - row.length ∧ t' + 2 * m ≤ t + 100 ∧ TS a p b (t + 1000) t' M ∧ M pr = some (.lst ((row.map encS).map D.dat)) ∧
      δ = [some (.ref a), some (.dat (encG g)), none, some (.dat (.list (ss.map encS))), some (.dat (.int (1 + mo : Nat))), some (.ref pr), some (.dat (encN need)), o7, none, none], ⟨1 + mo - 0, [], 1, tt + 1, none, fun _ h => (by cases h), fun _ => rfl, by show 0 + 1 ≤ _; omega, rfl, by omega, ⟨S3.1.new hpr, S3.2.1, S3.2.2.trans (.new hpr)⟩, updM_same, ?_⟩, ?_⟩
    · show _ = [_, _, _, _, some (D.dat (.int ((1 + mo : Nat) : Int))), _, _, _, _, _]
      rfl
    · rintro m δ M ⟨row, need, t', o7, hro, hgr, hlen, rfl, ht', S4, hM, rfl⟩
      refine if_b (fun e => ?_) fun e => ?_
      · have hneed : 0 < need := by have := of_decide_eq_true e; omega
        have er : ((row.map encS).map D.dat).length = row.length := by rw [List.length_map, List.length_map]
        refine seq_mid (fun δ M' => ∃ (i : Nat) (hi : i < ss.length), TS a p b (t + 1000) (t' + 1) M' ∧ M' pr = some (.lst ((row.map encS).map D.dat)) ∧ δ = [some (.ref a), some (.dat (encG g)), none, some (.dat (.list (ss.map encS))), some (.dat (.int (1 + mo : Nat))), some (.ref pr), some (.dat (encN need)), some (.dat (encS ss[i])), none, none]) (fun K hK => ?_) ?_
        · refine ⟨_, rfl, ?_⟩
          rw [e0]
          refine ⟨a, p, _, ss.length, rfl, S4.1, by omega, hs1, by omega, fun i M5 hi k5 e5 => ?_⟩
          exact ⟨_, _, rfl, atI_map (List.getElem?_eq_getElem hi), hK _ _ ⟨i, hi, S4.next (by omega) k5 e5, by rw [e5 _ ra rp]; exact hM, rfl⟩⟩
        rintro δ M5 ⟨i, hi, S5, hM5, rfl⟩
        have hsi := hss ss[i] (List.getElem_mem hi)
        refine seq_mid (fun δ M' => ∃ (s : Sym) (t2 : Nat), SymOk s ∧ row.length + need + s.2 ≤ 1 + mo ∧ t2 ≤ t' + 2 ∧ TS a p b (t + 1000) t2 M' ∧ M' pr = some (.lst ((row.map encS).map D.dat)) ∧ δ = [some (.ref a), some (.dat (encG g)), none, some (.dat (.list (ss.map encS))), some (.dat (.int (1 + mo : Nat))), some (.ref pr), some (.dat (encN need)), some (.dat (encS s)), none, none]) (fun K hK => ?_) ?_
        · refine ⟨_, seq_ref hM5, _, _, rfl, atI_nat (i := 1) rfl, ?_⟩
          rw [er]
          refine if_b (fun e => ?_) fun e => ?_
          · refine ⟨_, rfl, rfl, a, p, _, 5, rfl, S5.1, by omega, by decide, by decide, fun j M6 hj k6 e6 => ?_⟩
            have hjl : j < symsL.length := by show j < 12; omega
            refine ⟨_, _, rfl, atI_map (List.getElem?_eq_getElem hjl), hK _ _ ⟨symsL[j], _, symsL_ok _ (List.getElem_mem hjl), ?_, by omega, S5.next (by omega) k6 e6, by rw [e6 _ ra rp]; exact hM5, rfl⟩⟩
            have : symsL[j].2 = 0 := by
              match j, hj with
              | 0, _ => rfl
              | 1, _ => rfl
              | 2, _ => rfl
              | 3, _ => rfl
              | 4, _ => rfl
            omega
          · have := of_decide_eq_false e
            exact hK _ _ ⟨ss[i], _, hsi, by omega, by omega, S5, hM5, rfl⟩
        rintro δ M6 ⟨s, t2, hs, hle, ht2, S6, hM6, rfl⟩
        obtain ⟨n', rfl⟩ : ∃ n', need = n' + 1 := ⟨need - 1, by omega⟩
        have ez : PyData.int (((n' + 1 : Nat) : Int) + ((s.2 : Nat) : Int) - 1) = encN (n' + s.2) := by
          unfold encN
          congr 1
          omega
        refine ⟨⟨_, hM6⟩, _, hM6, by rw [er]; omega, _, _, rfl, atI_nat (i := 1) rfl, 1 + mo - (row ++ [s]).length, ?_, row ++ [s], n' + s.2, t2, some (.dat (encS s)), ?_, row_grow hgr hs, ?_, rfl, ?_, ⟨S6.1.put rp ra, S6.2.1, S6.2.2.put hb0⟩, ?_, by rw [← ez]; rfl⟩
        · rw [List.length_append, List.length_singleton]; omega
        · intro x hx
          rcases List.mem_append.mp hx with hx | hx
          · exact hro x hx
          · rcases List.mem_singleton.mp hx with rfl
            exact hs
        · rw [List.length_append, List.length_singleton]; omega
        · rw [List.length_append, List.length_singleton]; omega
        · rw [updM_same, List.map_append, List.map_append]; rfl
      · have hneed : need = 0 := by have := of_decide_eq_false e; omega
        subst hneed
        refine ⟨_, _, seq_ref hM, datsOf_map _, q row M t' ⟨?_, hro, by omega⟩ S4.1 (by omega) S4.2.2⟩
        have := hgr []
        rw [List.append_nil] at this
        exact this.trans rfl
end DL
set_option Elab.async false
set_option linter.all false
set_option maxRecDepth 100000
set_option maxHeartbeats 4000000
namespace DL
open PySem PySem.Spec PyProof.Rows L2
/-! PLg: the law's true sheet. -/
def min2 (p q : PI) : PI := if pLt q p = true then q else p
def zStep (z : Row) (r : Rl) : Row := z.set r.res (min2 (at2 z r.res) (addPs (1, 1) (r.parts.map (at2 z))))
def zRound (g : Gr) (z : Row) : Row := g.rules.foldl zStep z
def topP : PI := (1000, 1000)
def iter {α : Type} (f : α → α) : Nat → α → α
  | 0, x => x
  | n + 1, x => f (iter f n x)
def zAll (g : Gr) : Row := iter (zRound g) g.n (tal g.n fun _ => topP)
def hStep (t : Tr) (z : Row) (k : Nat) (h : List Row) (r : Rl) : List Row := h.set k ((row2 h k).set r.res (min2 (at2 (row2 h k) r.res) (boundT t z h k r)))
def hNode (g : Gr) (t : Tr) (z : Row) (h : List Row) (k : Nat) : List Row := g.rules.foldl (hStep t z k) h
/-- i nodes done, from the last -/
def hAll (g : Gr) (t : Tr) (z : Row) : Nat → List Row
  | 0 => tal t.length fun _ => tal g.n fun _ => topP
  | i + 1 => hNode g t z (hAll g t z i) (t.length - 1 - i)
def trueSh (g : Gr) (t : Tr) : Sh := ⟨zAll g, hAll g t (zAll g) t.length⟩
def sp_law_true : PSp := fun qs Qd _ => ∃ (g : Gr) (t : Tr), qs = [encG g, encT t] ∧ GrOk g ∧ TrOk t ∧ Qd (encSh (trueSh g t))
theorem zStep_len {z : Row} {r : Rl} : (zStep z r).length = z.length := List.length_set
theorem hl_view {ph : Addr} {qs : List Addr} {rows : List Row} {M : Mp} (h : HL ph qs rows M) : viewD M (.ref ph) = some (encHQ false rows) := by
  have hv : optAll (view1 M) (qs.map .ref) = some (rows.map (encRowQ false)) := by
    have : ∀ (qs : List Addr) (rows : List Row), qs.length = rows.length → (∀ (i : Nat) (q : Addr) (r : Row), qs[i]? = some q → rows[i]? = some r → M q = some (.lst (rowD r))) → optAll (view1 M) (qs.map .ref) = some (rows.map (encRowQ false)) := by
      intro qs
      induction qs with
      | nil =>
        intro rows hl _
        cases rows with
        | nil => rfl
        | cons r rows => cases hl
      | cons q qs ih =>
        intro rows hl hr
        cases rows with
        | nil => cases hl
        | cons r rows =>
          rw [List.map_cons, List.map_cons]
          refine optAll_cons ?_ (ih rows (by simpa using hl) fun i q r h1 h2 => hr (i + 1) q r h1 h2)
          have hq := hr 0 q r rfl rfl
          unfold view1
          dsimp only
          rw [hq]
          show Option.map _ (optAll view0 (rowD r)) = _
          have e : optAll view0 (rowD r) = some (r.map encP) := by
            rw [rowD_eq]
            generalize r.map encP = ps
            induction ps with
            | nil => rfl
            | cons p ps ih => rw [List.map_cons]; exact optAll_cons rfl ih
          rw [e]; rfl
    exact this qs rows h.len h.row
  unfold viewD
  dsimp only
  rw [h.top]
  show Option.map _ (optAll (view1 M) (qs.map .ref)) = _
  rw [hv]; rfl
theorem view_row {M : Mp} {a : Addr} {r : Row} (h : M a = some (.lst (rowD r))) : viewD M (.ref a) = some (encRowQ false r) := by
  rw [rowD_eq] at h
  exact view_lst h
theorem len_law_true {a b c} (h : sp_law_true a b c) : a.length = 2 := by
  obtain ⟨g, t, rfl, _⟩ := h; rfl
def t_law_true : DS :=
  dSeq (dAsg (dCallP sp_law_ends (aCons (dVar 1) (aNil))) (dName 2)) (dSeq (dAsg (dTup (aCons (dC (.int 1000)) (aCons (dC (.int 1000)) (aNil)))) (dName 3)) (dSeq (dAsg (dLc (iRange (dOp ixD (dVar 0) (dC (.int 0)))) (dName 13) (dYes) (dVar 3) [13] finM) (dName 4)) (dSeq (dFor (iRange (dOp ixD (dVar 0) (dC (.int 0)))) (dName 5) (dFor (iSeq (dOp ixD (dVar 0) (dC (.int 2)))) (dTupG 3 (gsCons (dName 6) (gsCons (dName 7) (gsCons (dName 8) (gsNil))))) (dAsg (dCB min2C (aCons (dOp ixD (dVar 4) (dVar 6)) (aCons (dCallP sp_law_sum (aCons (dTup (aCons (dC (.int 1)) (aCons (dC (.int 1)) (aNil)))) (aCons (dLc (iSeq (dVar 8)) (dName 16) (dYes) (dOp ixD (dVar 4) (dVar 16)) [16] finL) (aNil)))) (aNil)))) (dSub (dVar 4) (dVar 6) (setL))))) (dSeq (dAsg (dLc (iSeq (dVar 1)) (dName 14) (dYes) (dLc (iRange (dOp ixD (dVar 0) (dC (.int 0)))) (dName 13) (dYes) (dVar 3) [13] finM) [14] finM) (dName 9)) (dSeq (dFor (iRange (dCB lenC (aCons (dVar 1) (aNil)))) (dName 10) (dSeq (dAsg (dOp subD (dOp subD (dCB lenC (aCons (dVar 1) (aNil))) (dC (.int 1))) (dVar 10)) (dName 11)) (dFor (iSeq (dOp ixD (dVar 0) (dC (.int 2)))) (dName 12) (dAsg (dCB min2C (aCons (dOp ixD (dOp ixD (dVar 9) (dVar 11)) (dOp ixD (dVar 12) (dC (.int 0)))) (aCons (dCallB sp_law_bound (aCons (dVar 1) (aCons (dVar 2) (aCons (dVar 11) (aCons (dVar 12) (aCons (dVar 4) (aCons (dVar 9) (aNil)))))))) (aNil)))) (dSub (dOp ixD (dVar 9) (dVar 11)) (dOp ixD (dVar 12) (dC (.int 0))) (setL)))))) (dRet (dTup (aCons (dCB tupleC (aCons (dVar 4) (aNil))) (aCons (dCB tupleC (aCons (dLc (iSeq (dVar 9)) (dName 15) (dYes) (dCB tupleC (aCons (dVar 15) (aNil))) [15] finL) (aNil))) (aNil))))))))))
theorem law_law_true {a b c} (h : sp_law_true a b c) : t_law_true { nx := fun _ _ => b .none, rt := fun d M => ∃ r, viewD M d = some r ∧ b r } (startD ["_law_grammar", "_law_tree_here", "_law_ends_here", "_law_top", "_law_z", "_law_turn", "_law_result", "_law_word", "_law_parts", "_law_h", "_law_k", "_law_node", "_law_rule", "_law_name", "_law_symbol", "_law_row", "_law_part"] (a.map .dat)) M0 := by
  obtain ⟨g, t, rfl, gk, tk, q⟩ := h
  obtain ⟨w, tl, to⟩ := tk
  have hgn := gk.few
  refine ⟨_, rfl, t, rfl, w, tl, ok16 rfl, _, _, rfl, rfl, ⟨by omega, by omega⟩, by rw [upTo_len]; omega, lc_map (List.range g.n) (fun k => D.dat (encN k)) (fun _ => .dat (encP topP)) (range_items g.n) trivial (fun k hk K kk => kk) fun pz hz => ?_⟩
  have hz0 : (updM M0 pz (.lst ((List.range g.n).map fun _ => D.dat (encP topP)))) pz = some (.lst (rowD (tal g.n fun _ => topP))) := by
    rw [updM_same]
    unfold rowD tal
    rw [List.map_map]; rfl
  generalize (updM M0 pz (.lst ((List.range g.n).map fun _ => D.dat (encP topP)))) = M1 at hz0 ⊢
  refine ⟨_, _, rfl, rfl, ⟨by omega, by omega⟩, goFor_up g.n (fun i δ M => ∃ o5 o6 o7 o8, M pz = some (.lst (rowD (iter (zRound g) i (tal g.n fun _ => topP)))) ∧ (iter (zRound g) i (tal g.n fun _ => topP)).length = g.n ∧ δ = [some (.dat (encG g)), some (.dat (encT t)), some (.dat (.list (tal t.length fun k => encN (EN t k)))), some (.dat (encP topP)), some (.ref pz), o5, o6, o7, o8, none, none, none, none, none, none, none, none]) ?_ ?_ ⟨none, none, none, none, hz0, tal_len, rfl⟩⟩
  · rintro δ M ⟨o5, o6, o7, o8, hM, hl, rfl⟩
    refine ⟨trivial, ?_⟩
    rw [show iter (zRound g) g.n (tal g.n fun _ => topP) = zAll g from rfl] at hM hl
    have e0 : ((t.map encS).map D.dat).length = t.length := by rw [List.length_map, List.length_map]
    have etop : ((List.range g.n).map fun _ => D.dat (encP topP)) = rowD (tal g.n fun _ => topP) := by
      unfold rowD tal
      rw [List.map_map]; rfl
    refine ⟨_, rfl, by rw [e0]; omega, lc_lists (enc := fun s => D.dat (encS s)) (f := fun _ => rowD (tal g.n fun _ => topP)) (fun _ => rfl) t (map_dat _ _) (fun s hs M K k => ⟨_, _, rfl, rfl, ⟨by omega, by omega⟩, by rw [upTo_len]; omega, lc_map (List.range g.n) (fun k => D.dat (encN k)) (fun _ => .dat (encP topP)) (range_items g.n) trivial (fun k hk K kk => kk) fun p hp => ?_⟩) fun qs M' h1 h2 h3 h4 h5 ph hph => ?_⟩
    · rw [etop]; exact k p hp
    have zq : pz ∉ qs := fun h => by have := h3 pz h; rw [hM] at this; cases this
    have hM' : M' pz = some (.lst (rowD (zAll g))) := by rw [h5 pz zq]; exact hM
    have pz' : ph ≠ pz := ne_fresh hph (by rw [hM']; rfl)
    have pq : ph ∉ qs := fun h => by
      obtain ⟨j, hj⟩ := List.getElem?_of_mem h
      have hl : j < t.length := by rw [← h1]; exact (List.getElem?_eq_some_iff.mp hj).1
      rw [h4 j ph _ hj (List.getElem?_eq_getElem hl)] at hph
      cases hph
    have Z0 : (updM M' ph (.lst (qs.map .ref))) pz = some (.lst (rowD (zAll g))) := by rw [updM_ne pz'.symm]; exact hM'
    have H0 : HL ph qs (hAll g t (zAll g) 0) (updM M' ph (.lst (qs.map .ref))) := ⟨updM_same, by rw [h1]; exact tal_len.symm, fun i q r i1 i2 => by
      rw [updM_ne (fun e => pq (by rw [← e]; exact List.mem_of_getElem? i1))]
      have hi : i < t.length := by rw [← h1]; exact (List.getElem?_eq_some_iff.mp i1).1
      have i2' : (tal t.length fun _ => tal g.n fun _ => topP)[i]? = some r := i2
      rw [tal_get hi] at i2'
      cases i2'
      exact h4 i q _ i1 (List.getElem?_eq_getElem hi)⟩
    generalize (updM M' ph (.lst (qs.map .ref))) = M2 at Z0 H0 ⊢
    have R0 : ∀ row ∈ hAll g t (zAll g) 0, row.length = g.n := fun row hr => by
      obtain ⟨j, _, rfl⟩ := List.mem_map.mp hr
      exact tal_len
    refine ⟨_, rfl, ?_⟩
    rw [e0]
    refine ⟨by omega, goFor_up t.length (fun i δ M => ∃ o10 o11 o12, M pz = some (.lst (rowD (zAll g))) ∧ HL ph qs (hAll g t (zAll g) i) M ∧ (∀ row ∈ hAll g t (zAll g) i, row.length = g.n) ∧ δ = [some (.dat (encG g)), some (.dat (encT t)), some (.dat (.list (tal t.length fun k => encN (EN t k)))), some (.dat (encP topP)), some (.ref pz), o5, o6, o7, o8, some (.ref ph), o10, o11, o12, none, none, none, none]) ?_ ?_ ⟨none, none, none, Z0, H0, R0, rfl⟩⟩
    · rintro δ M ⟨o10, o11, o12, hZ, hH, hR, rfl⟩
      refine ⟨trivial, _, _, seq_ref hZ, by rw [rowD_eq]; exact datsOf_map _, _, seq_ref hH.top, by rw [List.length_map, h1]; omega, hH.out (fun q hq r hr K k => ⟨_, _, seq_ref hr, by rw [rowD_eq]; exact datsOf_map _, k⟩) (finL_map encRow _ ?_)⟩
      exact ⟨_, _, rfl, datsOf_map _, ok16 rfl, _, rfl, q⟩
    · rintro i δ M K hi ⟨o10, o11, o12, hZ, hH, hR, rfl⟩ hK
      have hk : t.length - 1 - i < t.length := by omega
      have ez : ((((t.map encS).map D.dat).length : Nat) : Int) - 1 - ((i : Nat) : Int) = ((t.length - 1 - i : Nat) : Int) := by rw [e0]; omega
      refine ⟨trivial, seq_asg (d := .dat (encN (t.length - 1 - i))) (fun Q q => ⟨_, rfl, q_int_eq ez q⟩) ?_⟩
      have hstep : hAll g t (zAll g) (i + 1) = hNode g t (zAll g) (hAll g t (zAll g) i) (t.length - 1 - i) := rfl
      generalize t.length - 1 - i = k at hk ez hstep ⊢
      refine ⟨_, _, rfl, rfl, _, rfl, goFor_ind (fun r => D.dat (encR r)) (fun l δ M => ∃ (h : List Row) (o12 : Option D), (∀ r ∈ l, r ∈ g.rules) ∧ M pz = some (.lst (rowD (zAll g))) ∧ HL ph qs h M ∧ (∀ row ∈ h, row.length = g.n) ∧ l.foldl (hStep t (zAll g) k) h = hAll g t (zAll g) (i + 1) ∧ δ = [some (.dat (encG g)), some (.dat (encT t)), some (.dat (.list (tal t.length fun k => encN (EN t k)))), some (.dat (encP topP)), some (.ref pz), o5, o6, o7, o8, some (.ref ph), some (.dat (encN i)), some (.dat (encN k)), o12, none, none, none, none]) ?_ ?_ g.rules (map_dat _ _) ⟨_, o12, fun r h => h, hZ, hH, hR, hstep.symm, rfl⟩⟩
      · rintro δ M ⟨h, o12, _, hZ, hH, hR, hh, rfl⟩
        refine ⟨by show some ((g.rules.map encR).map D.dat) = _; rw [List.map_map], hK _ _ ⟨_, _, _, hZ, ?_, ?_, rfl⟩⟩
        · rw [← hh]; exact hH
        · rw [← hh]; exact hR
      · rintro r l δ M K2 ⟨h, o12, hlr, hZ, hH, hR, hh, rfl⟩ hK2
        have rf := gk.rf r (hlr r List.mem_cons_self)
        have hhl : h.length = t.length := by rw [← hH.len, h1]
        have eq := List.getElem?_eq_getElem (l := qs) (i := k) (by omega)
        have er : h[k]? = some (row2 h k) := row2_get (by omega)
        have hrM := hH.row k _ _ eq er
        have hrl : (row2 h k).length = g.n := hR _ (List.mem_of_getElem? er)
        refine ⟨by show some ((g.rules.map encR).map D.dat) = _; rw [List.map_map], _, _, seq_ref hH.top, atI_mapD eq, _, _, rfl, rfl, _, _, seq_ref hrM, atI_mapD (at2_get (i := r.res) (by rw [hrl]; exact rf.res)), [encT t, .list (tal t.length fun k => encN (EN t k)), encN k, encR r, encRowQ false (zAll g), encHQ false h], ?_, false, t, k, g.n, r, zAll g, h, rfl, ⟨w, tl, to⟩, hk, rf, hl, hhl, hR, rfl, at2 (row2 h k) r.res, _, rfl, rfl, _, _, seq_ref hH.top, atI_mapD eq, _, _, rfl, rfl, _, _, hrM, ixN_nat (by unfold rowD; rw [List.length_map, hrl]; exact rf.res), ?_⟩
        · exact optAll_cons rfl (optAll_cons rfl (optAll_cons rfl (optAll_cons rfl (optAll_cons (view_row hZ) (optAll_cons (hl_view hH) rfl)))))
        · rw [rowD_set]
          refine hK2 _ _ ⟨hStep t (zAll g) k h r, _, fun r h => hlr r (List.mem_cons_of_mem _ h), ?_, hH.set h2 pq eq _, ?_, hh, rfl⟩
          · rw [updM_ne (fun e => zq (by rw [e]; exact List.mem_of_getElem? eq))]; exact hZ
          · intro row hrow
            rcases List.mem_or_eq_of_mem_set hrow with h | rfl
            · exact hR _ h
            · rw [List.length_set]; exact hrl
  · rintro i δ M K hi ⟨o5, o6, o7, o8, hM, hl, rfl⟩ hK
    refine ⟨trivial, _, _, rfl, rfl, _, rfl, goFor_ind (fun r => D.dat (encR r)) (fun l δ M => ∃ (z : Row) (o6 o7 o8 : Option D), (∀ r ∈ l, r ∈ g.rules) ∧ M pz = some (.lst (rowD z)) ∧ z.length = g.n ∧ l.foldl zStep z = zRound g (iter (zRound g) i (tal g.n fun _ => topP)) ∧ δ = [some (.dat (encG g)), some (.dat (encT t)), some (.dat (.list (tal t.length fun k => encN (EN t k)))), some (.dat (encP topP)), some (.ref pz), some (.dat (encN i)), o6, o7, o8, none, none, none, none, none, none, none, none]) ?_ ?_ g.rules (map_dat _ _) ⟨_, o6, o7, o8, fun r h => h, hM, hl, rfl, rfl⟩⟩
    · rintro δ M ⟨z, o6, o7, o8, _, hM, hl, hz, rfl⟩
      refine ⟨by show some ((g.rules.map encR).map D.dat) = _; rw [List.map_map], hK _ _ ⟨_, _, _, _, ?_, ?_, rfl⟩⟩
      · rw [show iter (zRound g) (i + 1) (tal g.n fun _ => topP) = z from hz.symm]; exact hM
      · rw [show iter (zRound g) (i + 1) (tal g.n fun _ => topP) = z from hz.symm]; exact hl
    · rintro r l δ M K2 ⟨z, o6, o7, o8, hlr, hM, hl, hz, rfl⟩ hK2
      have rf := gk.rf r (hlr r List.mem_cons_self)
      have e0 : ((r.parts.map encN).map D.dat).length = r.parts.length := by rw [List.length_map, List.length_map]
      refine ⟨by show some ((g.rules.map encR).map D.dat) = _; rw [List.map_map], rfl, rfl, _, _, seq_ref hM, atI_mapD (at2_get (i := r.res) (by rw [hl]; exact rf.res)), ok16 rfl, _, rfl, by rw [e0]; have := rf.few; omega, lc_dat r.parts encN (fun p => encP (at2 z p)) rfl (fun p h K k => ⟨_, _, seq_ref hM, atI_mapD (at2_get (by rw [hl]; exact rf.parts p h)), k⟩) ?_⟩
      refine ⟨_, rfl, (1, 1), r.parts.map (at2 z), by rw [List.map_map]; rfl, by rw [List.length_map]; exact rf.few, at2 z r.res, _, rfl, rfl, _, _, hM, ixN_nat (by unfold rowD; rw [List.length_map, hl]; exact rf.res), ?_⟩
      refine hK2 _ _ ⟨zStep z r, _, _, _, fun r h => hlr r (List.mem_cons_of_mem _ h), ?_, by rw [zStep_len]; exact hl, hz, rfl⟩
      rw [updM_same, rowD_set]; rfl
end DL
set_option Elab.async false
set_option linter.all false
set_option maxRecDepth 100000
set_option maxHeartbeats 4000000
namespace DL
open PySem PySem.Spec PyProof.Rows L2
/-! PLh: the nearest trees, here. -/
/-- what it costs, the tree -/
abbrev En := Int × Tr
def keyE (e : En) : PI := (e.1, ((e.2.length : Nat) : Int))
def encE (e : En) : PyData := .tuple [.int e.1, encN e.2.length, encT e.2]
abbrev ERow := List En
def atE (r : ERow) (i : Nat) : En := r.getD i (0, [])
theorem atE_get {r : ERow} {i : Nat} (h : i < r.length) : r[i]? = some (atE r i) := by
  unfold atE; rw [List.getD_eq_getElem?_getD, List.getElem?_eq_getElem h]; rfl
def keys (r : ERow) : Row := r.map keyE
theorem keysE_at {r : ERow} {i : Nat} (h : i < r.length) : at2 (keys r) i = keyE (atE r i) := by
  have h1 := at2_get (r := keys r) (i := i) (by unfold keys; rw [List.length_map]; exact h)
  unfold keys at h1
  rw [List.getElem?_map, atE_get h] at h1
  exact (Option.some.inj h1).symm
theorem alike_S (s s' : Sym) : W.alike (encS s) (encS s') = true := by simp [W.alike, W.alikeAll, encS]
theorem alike_T : ∀ (t t' : Tr), W.alikeAll (t.map encS) (t'.map encS) = true
  | [], _ => by simp [W.alikeAll]
  | _ :: _, [] => by simp [W.alikeAll]
  | s :: t, s' :: t' => by rw [List.map_cons, List.map_cons, W.alikeAll, alike_S, alike_T t t']; rfl
theorem depth_T : ∀ t : Tr, PyData.depthAll (t.map encS) ≤ 1
  | [] => by simp [PyData.depthAll]
  | s :: t => by
    rw [List.map_cons, PyData.depthAll]
    have := depth_T t
    have h1 : PyData.depth (encS s) = 1 := by simp [encS, PyData.depth, PyData.depthAll]
    omega
theorem cmp_E (e e' : En) : CmpOk [.int e.1, encN e.2.length, encT e.2] [.int e'.1, encN e'.2.length, encT e'.2] := by
  have h := alike_T e.2 e'.2
  have hd := depth_T e.2
  refine ⟨?_, ?_⟩
  · simp [W.alikeAll, W.alike, encN, encT, h]
  · simp [PyData.depth, PyData.depthAll, encN, encT]
    omega
theorem lt_E {e e' : En} (h : keyE e ≠ keyE e') : ltT [.int e.1, encN e.2.length, encT e.2] [.int e'.1, encN e'.2.length, encT e'.2] = pLt (keyE e) (keyE e') := by
  unfold ltT
  rw [W.dataLt_tuple, W.dataLt_cons (by simp [W.alike]), W.dataLt_int, W.dataLt_cons (by simp [W.alike, encN]), show W.dataLt (encN e.2.length) (encN e'.2.length) = decide (((e.2.length : Nat) : Int) < ((e'.2.length : Nat) : Int)) from W.dataLt_int _ _]
  unfold pLt keyE
  simp only [PyData.eqv, encN, beq_iff_eq]
  by_cases h1 : e.1 = e'.1
  · rw [if_pos h1]
    by_cases h2 : ((e.2.length : Nat) : Int) = ((e'.2.length : Nat) : Int)
    · exact absurd (show keyE e = keyE e' from Prod.ext (show e.1 = e'.1 from h1) (show ((e.2.length : Nat) : Int) = _ from h2)) h
    · rw [if_neg h2]
      exact decide_eq_decide.mpr ⟨fun z => .inr ⟨h1, z⟩, fun z => by rcases z with z | z; omega; exact z.2⟩
  · rw [if_neg h1]
    exact decide_eq_decide.mpr ⟨fun z => .inl z, fun z => by rcases z with z | z; exact z; exact absurd z.1 h1⟩
/-- taking the lesser: by keys -/
theorem min_E (e e' : En) : keyE (if ltT [.int e.1, encN e.2.length, encT e.2] [.int e'.1, encN e'.2.length, encT e'.2] = true then e else e') = min2 (keyE e') (keyE e) := by
  by_cases h : keyE e = keyE e'
  · unfold min2
    rw [h, pLt_irr, if_neg Bool.false_ne_true]
    split
    · exact h
    · rfl
  · rw [lt_E h]
    unfold min2
    split <;> rfl
theorem lc2_flat {α : Type} {di1 : DI} {te : DE} {i j : Nat} {vs1 : List Nat} {δw : Sd} {stay : Mp → Prop} {M : Mp} {enc : α → D} {f : α → List PyData} (hs : stay M) : ∀ (l : List α) {n : Nat} {items : List D} {Q : List D → Mp → Prop}, items = l.map enc → n + ((l.map f).flatten).length ≤ 16777216 →
    (∀ a ∈ l, ∀ R : List D → (Mp → Prop) → Mp → Prop, (∀ st : Mp → Prop, st M → R ((f a).map D.dat) st M) → di1 (δw.set i (some (enc a))) M R) →
    (∀ a ∈ l, ∀ (x : PyData) (K : DK), K (.dat x) M → te ((dwipe (δw.set i (some (enc a))) vs1).set j (some (.dat x))) M K) → Q (((l.map f).flatten).map D.dat) M → goLc2 (dName i) di1 (dName j) te vs1 stay δw n items M Q
  | [], n, _, Q, e, hl, h1, h2, q => by subst e; exact ⟨hs, q⟩
  | a :: l, n, _, Q, e, hl, h1, h2, q => by
    subst e
    rw [List.map_cons, List.flatten_cons] at q
    rw [List.map_cons, List.flatten_cons, List.length_append] at hl
    refine ⟨hs, h1 a List.mem_cons_self _ fun st hst => ⟨by rw [List.length_map]; omega, ?_⟩⟩
    refine lc_map (f a) D.dat D.dat rfl hst (fun x hx K k => h2 a List.mem_cons_self x K k) ?_
    refine lc2_flat hs l rfl (by rw [List.length_map]; omega) (fun b hb => h1 b (List.mem_cons_of_mem _ hb)) (fun b hb => h2 b (List.mem_cons_of_mem _ hb)) ?_
    rw [List.map_append] at q
    exact q
theorem finL_of {ps : List PyData} {M : Mp} {Q : DK} (q : Q (.dat (.list ps)) M) : finL (ps.map D.dat) M Q := by
  unfold finL; rw [datsOf_map]; exact q
def encO : Option En → PyData
  | none => .none
  | some e => encE e
def minO (o : Option PI) (b : PI) : PI := match o with
  | none => b
  | some k => min2 k b
def bStep (s : Sym) (size : Int) (z : Row) (lower : List Row) (acc : List (Option PI)) (r : Rl) : List (Option PI) := acc.set r.res (some (minO ((acc[r.res]?).getD none) (boundW s size z lower r)))
def bestK (g : Gr) (s : Sym) (size : Int) (z : Row) (lower : List Row) : List (Option PI) := g.rules.foldl (bStep s size z lower) (tal g.n fun _ => none)
structure EnOk (e : En) : Prop where
  few : e.2.length ≤ 10000
  word : ∀ s ∈ e.2, PyData.strOk s.1 = true
def encERow (r : ERow) : PyData := .list (r.map encE)
def sp_nearest_here : PSp := fun qs Qd _ => ∃ (g : Gr) (s : Sym) (size : Int) (plain : ERow) (tables : List ERow), qs = [encG g, encS s, .int size, .list (tables.map encERow), .list (plain.map encE)] ∧ GrOk g ∧ (∀ r ∈ g.rules, r.parts.length ≤ 4) ∧ PyData.strOk s.1 = true ∧ plain.length = g.n ∧ (∀ e ∈ plain, EnOk e) ∧ tables.length ≤ 1000 ∧ (∀ tb ∈ tables, tb.length = g.n ∧ ∀ e ∈ tb, EnOk e) ∧
  ∀ best : List (Option En), best.map (Option.map keyE) = bestK g s size (keys plain) (tables.map keys) → (∀ e, some e ∈ best → e.2.length ≤ 40001 ∧ ∀ s ∈ e.2, PyData.strOk s.1 = true) → Qd (.list (best.map encO))
def rowsE (s : Sym) (plain : ERow) (tables : List ERow) (r : Rl) : ERow := if r.sym = s then (tables.zip r.parts).map fun x => atE x.1 x.2 else r.parts.map (atE plain)
def priceE (s : Sym) (size : Int) (r : Rl) (rows : ERow) : Int := if r.sym = s then (rows.map (·.1)).sum else (rows.map (·.1)).sum + (size + 1)
def newE (s : Sym) (size : Int) (plain : ERow) (tables : List ERow) (r : Rl) : En := (priceE s size r (rowsE s plain tables r), r.sym :: ((rowsE s plain tables r).map (·.2)).flatten)
theorem sum_len (rows : ERow) : ((rows.map fun e => ((e.2.length : Nat) : Int)).sum) = ((((rows.map (·.2)).flatten).length : Nat) : Int) := by
  induction rows with
  | nil => rfl
  | cons e rows ih =>
    rw [List.map_cons, List.sum_cons, ih, List.map_cons, List.flatten_cons, List.length_append]; omega
theorem newE_key {s : Sym} {size : Int} {plain : ERow} {tables : List ERow} {r : Rl} (hp : ∀ p ∈ r.parts, p < plain.length ∧ ∀ tb ∈ tables, p < tb.length) : keyE (newE s size plain tables r) = boundW s size (keys plain) (tables.map keys) r := by
  unfold newE keyE priceE rowsE boundW
  by_cases h : r.sym = s
  · rw [if_pos h, if_pos h, if_pos h]
    unfold addPs
    have e : below (tables.map keys) r.parts = ((tables.zip r.parts).map fun x => atE x.1 x.2).map keyE := by
      unfold below
      rw [List.zip_map_left, List.map_map, List.map_map]
      refine List.map_congr_left fun x hx => ?_
      exact keysE_at ((hp x.2 (List.of_mem_zip hx).2).2 x.1 (List.of_mem_zip hx).1)
    rw [e]
    generalize ((tables.zip r.parts).map fun x => atE x.1 x.2) = rows
    refine Prod.ext ?_ ?_
    · show (rows.map (·.1)).sum = 0 + ((rows.map keyE).map (·.1)).sum
      rw [List.map_map, Int.zero_add]; rfl
    · show ((((r.sym :: (rows.map (·.2)).flatten).length : Nat)) : Int) = 1 + ((rows.map keyE).map (·.2)).sum
      rw [List.map_map, List.length_cons, show (rows.map ((·.2) ∘ keyE)).sum = (rows.map fun e => ((e.2.length : Nat) : Int)).sum from rfl, sum_len]; omega
  · rw [if_neg h, if_neg h, if_neg h]
    unfold addPs
    have e : r.parts.map (at2 (keys plain)) = (r.parts.map (atE plain)).map keyE := by
      rw [List.map_map]
      exact List.map_congr_left fun x hx => keysE_at (hp x hx).1
    rw [e]
    generalize (r.parts.map (atE plain)) = rows
    refine Prod.ext ?_ ?_
    · show (rows.map (·.1)).sum + (size + 1) = (size + 1) + ((rows.map keyE).map (·.1)).sum
      rw [List.map_map, show (rows.map ((·.1) ∘ keyE)).sum = (rows.map (·.1)).sum from rfl]; omega
    · show ((((r.sym :: (rows.map (·.2)).flatten).length : Nat)) : Int) = 1 + ((rows.map keyE).map (·.2)).sum
      rw [List.map_map, List.length_cons, show (rows.map ((·.2) ∘ keyE)).sum = (rows.map fun e => ((e.2.length : Nat) : Int)).sum from rfl, sum_len]; omega
theorem rowsE_ok {s : Sym} {plain : ERow} {tables : List ERow} {r : Rl} (hp : ∀ p ∈ r.parts, p < plain.length ∧ ∀ tb ∈ tables, p < tb.length) (h1 : ∀ e ∈ plain, EnOk e) (h2 : ∀ tb ∈ tables, ∀ e ∈ tb, EnOk e) : (rowsE s plain tables r).length ≤ r.parts.length ∧ ∀ e ∈ rowsE s plain tables r, EnOk e := by
  unfold rowsE
  split
  · refine ⟨by simp; omega, fun e he => ?_⟩
    obtain ⟨x, hx, rfl⟩ := List.mem_map.mp he
    obtain ⟨hx1, hx2⟩ := List.of_mem_zip hx
    exact h2 x.1 hx1 _ (List.mem_of_getElem? (atE_get ((hp x.2 hx2).2 x.1 hx1)))
  · refine ⟨by simp, fun e he => ?_⟩
    obtain ⟨x, hx, rfl⟩ := List.mem_map.mp he
    exact h1 _ (List.mem_of_getElem? (atE_get (hp x hx).1))
theorem flat_len : ∀ (rows : ERow), (∀ e ∈ rows, EnOk e) → ((rows.map (·.2)).flatten).length ≤ 10000 * rows.length ∧ ∀ s ∈ (rows.map (·.2)).flatten, PyData.strOk s.1 = true
  | [], _ => ⟨by simp, fun s h => by simp at h⟩
  | e :: rows, h => by
    obtain ⟨h1, h2⟩ := flat_len rows fun x hx => h x (List.mem_cons_of_mem _ hx)
    have he := h e List.mem_cons_self
    rw [List.map_cons, List.flatten_cons]
    refine ⟨?_, fun s hs => ?_⟩
    · rw [List.length_append, List.length_cons]
      have := he.few
      omega
    · rcases List.mem_append.mp hs with hs | hs
      · exact he.word s hs
      · exact h2 s hs
theorem canLay_T : ∀ {t : Tr}, (∀ s ∈ t, PyData.strOk s.1 = true) → PyData.canLayAll0 (t.map encS) = true
  | [], _ => rfl
  | s :: t, h => by
    rw [List.map_cons, PyData.canLayAll0, canLay_T fun x hx => h x (List.mem_cons_of_mem _ hx)]
    have := h s List.mem_cons_self
    simp [encS, PyData.canLay0, PyData.canLayAll0, this]
theorem shaped_rows {rows : ERow} (h : ∀ e ∈ rows, EnOk e) : SeqAt.shaped (.list (rows.map encE)) = true := by
  unfold SeqAt.shaped
  have h1 : PyData.canLayAll0 (rows.map encE) = true := by
    induction rows with
    | nil => rfl
    | cons e rows ih =>
      rw [List.map_cons, PyData.canLayAll0, ih fun x hx => h x (List.mem_cons_of_mem _ hx)]
      have := canLay_T (h e List.mem_cons_self).word
      simp [encE, encN, encT, PyData.canLay0, PyData.canLayAll0, this]
  have h2 : PyData.depthAll (rows.map encE) ≤ 3 := by
    clear h h1
    induction rows with
    | nil => simp [PyData.depthAll]
    | cons e rows ih =>
      rw [List.map_cons, PyData.depthAll]
      have := depth_T e.2
      have h3 : PyData.depth (encE e) ≤ 3 := by
        simp [encE, encN, encT, PyData.depth, PyData.depthAll]; omega
      omega
  rw [PyData.canLay0, h1, PyData.depth, decide_eq_true (by omega)]; rfl
theorem len_nearest_here {a b c} (h : sp_nearest_here a b c) : a.length = 5 := by
  obtain ⟨g, s, size, plain, tables, rfl, _⟩ := h; rfl
def t_nearest_here : DS :=
  dSeq (dAsg (dOp mulM (dLst (aCons (dC .none) (aNil))) (dOp ixD (dVar 0) (dC (.int 0)))) (dName 5)) (dSeq (dFor (iSeq (dOp ixD (dVar 0) (dC (.int 2)))) (dTupG 3 (gsCons (dName 6) (gsCons (dName 7) (gsCons (dName 8) (gsNil))))) (dSeq (dAsg (dOp eqD (dTup (aCons (dVar 7) (aCons (dCB lenC (aCons (dVar 8) (aNil))) (aNil)))) (dVar 1)) (dName 9)) (dSeq (dIfS (dB (dVar 9)) (dAsg (dLc (iZipD (dVar 3) (dVar 8)) (dTupG 2 (gsCons (dName 14) (gsCons (dName 15) (gsNil)))) (dYes) (dOp ixD (dVar 14) (dVar 15)) [14, 15] finL) (dName 10)) (dAsg (dLc (iSeq (dVar 8)) (dName 15) (dYes) (dOp ixD (dVar 4) (dVar 15)) [15] finL) (dName 10))) (dSeq (dIfS (dB (dOp inLstD (dC .none) (dVar 10))) (dCont) (dNext)) (dSeq (dAsg (dCB sumC (aCons (dLc (iSeq (dVar 10)) (dName 16) (dYes) (dOp ixD (dVar 16) (dC (.int 0))) [16] finL) (aNil))) (dName 11)) (dSeq (dIfS (dNot (dB (dVar 9))) (dAug 11 (dOp addD (dVar 2) (dC (.int 1))) addI) (dNext)) (dSeq (dAsg (dOp addD (dTup (aCons (dTup (aCons (dVar 7) (aCons (dCB lenC (aCons (dVar 8) (aNil))) (aNil)))) (aNil))) (dCB tupleC (aCons (dLc2 (iSeq (dVar 10)) (dName 16) (iSeq (dOp ixD (dVar 16) (dC (.int 2)))) (dName 17) (dVar 17) [16, 17] [17] finL) (aNil)))) (dName 12)) (dSeq (dAsg (dTup (aCons (dVar 11) (aCons (dCB lenC (aCons (dVar 12) (aNil))) (aCons (dVar 12) (aNil))))) (dName 13)) (dIfS (dOr (dB (dOp isD (dOp ixD (dVar 5) (dVar 6)) (dC .none))) (dB (dOp ltD (dVar 13) (dOp ixD (dVar 5) (dVar 6))))) (dAsg (dVar 13) (dSub (dVar 5) (dVar 6) (setL))) (dNext)))))))))) (dRet (dVar 5)))
theorem law_nearest_here {a b c} (h : sp_nearest_here a b c) : t_nearest_here { nx := fun _ _ => b .none, rt := fun d M => ∃ r, viewD M d = some r ∧ b r } (startD ["driven", "symbol", "size", "tables", "plain", "best", "result", "word", "parts", "same", "rows", "price", "tree", "nearest", "table", "part", "row", "other"] (a.map .dat)) M0 := by
  obtain ⟨g, s, size, plain, tables, rfl, gk, h4, os, hpl, hpe, htl, hte, q⟩ := h
  have hgn := gk.few
  refine ⟨ok16 rfl, _, _, rfl, rfl, by omega, by omega, rfl, fun pb hpb => ⟨_, _, rfl, rfl, _, rfl, ?_⟩⟩
  refine goFor_ind (fun r => D.dat (encR r)) (fun l δ M => ∃ (best : List (Option En)) (o6 o7 o8 o9 o10 o11 o12 o13 : Option D), (∀ r ∈ l, r ∈ g.rules) ∧ best.length = g.n ∧ l.foldl (bStep s size (keys plain) (tables.map keys)) (best.map (Option.map keyE)) = bestK g s size (keys plain) (tables.map keys) ∧ (∀ e, some e ∈ best → e.2.length ≤ 40001 ∧ ∀ s ∈ e.2, PyData.strOk s.1 = true) ∧ M pb = some (.lst ((best.map encO).map D.dat)) ∧
    δ = [some (.dat (encG g)), some (.dat (encS s)), some (.dat (.int size)), some (.dat (.list (tables.map encERow))), some (.dat (.list (plain.map encE))), some (.ref pb), o6, o7, o8, o9, o10, o11, o12, o13, none, none, none, none]) ?_ ?_ g.rules (map_dat _ _) ⟨tal g.n fun _ => none, none, none, none, none, none, none, none, none, fun r h => h, tal_len, ?_, ?_, ?_, rfl⟩
  · rintro δ M ⟨best, o6, o7, o8, o9, o10, o11, o12, o13, _, hbl, hf, hg, hM, rfl⟩
    exact ⟨by show some ((g.rules.map encR).map D.dat) = _; rw [List.map_map], ⟨_, view_lst hM, q best hf hg⟩⟩
  · rintro r l δ M K ⟨best, o6, o7, o8, o9, o10, o11, o12, o13, hlr, hbl, hf, hg, hM, rfl⟩ hK
    have hr := hlr r List.mem_cons_self
    have rf := gk.rf r hr
    have hp4 := h4 r hr
    have hpp : ∀ p ∈ r.parts, p < plain.length ∧ ∀ tb ∈ tables, p < tb.length := fun p hp => ⟨by rw [hpl]; exact rf.parts p hp, fun tb htb => by rw [(hte tb htb).1]; exact rf.parts p hp⟩
    obtain ⟨hrl, hro⟩ := rowsE_ok hpp hpe (fun tb htb => (hte tb htb).2) (s := s)
    have hkey := newE_key (s := s) (size := size) hpp
    have e0 : ((r.parts.map encN).map D.dat).length = r.parts.length := by rw [List.length_map, List.length_map]
    obtain ⟨same, hsame⟩ : ∃ same : Bool, same = decide (r.sym = s) := ⟨_, rfl⟩
    refine ⟨by show some ((g.rules.map encR).map D.dat) = _; rw [List.map_map], rfl, rfl, ?_⟩
    refine seq_mid (fun δ M' => M' = M ∧ δ = [some (.dat (encG g)), some (.dat (encS s)), some (.dat (.int size)), some (.dat (.list (tables.map encERow))), some (.dat (.list (plain.map encE))), some (.ref pb), some (.dat (encN r.res)), some (.dat (.str r.word)), some (.dat (encL r.parts)), some (.dat (.bool same)), o10, o11, o12, o13, none, none, none, none]) (fun K hK => ?_) ?_
    · refine ⟨_, rfl, ok16 rfl, shaped_sym rf.word _, shaped_sym os _, ?_⟩
      rw [e0, eqv_sym, show decide ((r.word, r.parts.length) = (s.1, s.2)) = same from hsame.symm]
      exact hK _ _ ⟨rfl, rfl⟩
    rintro δ M' ⟨rfl, rfl⟩
    refine seq_mid (fun δ M2 => M2 = M' ∧ δ = [some (.dat (encG g)), some (.dat (encS s)), some (.dat (.int size)), some (.dat (.list (tables.map encERow))), some (.dat (.list (plain.map encE))), some (.ref pb), some (.dat (encN r.res)), some (.dat (.str r.word)), some (.dat (encL r.parts)), some (.dat (.bool same)), some (.dat (.list ((rowsE s plain tables r).map encE))), o11, o12, o13, none, none, none, none]) (fun K hK => ?_) ?_
    · refine if_b (fun e => ?_) fun e => ?_
      · have hs : r.sym = s := of_decide_eq_true (hsame.symm.trans e)
        refine ⟨by unfold paired; simp; omega, lc_zip (tables.zip r.parts) (fun x => encERow x.1) (fun x => encN x.2) (fun x => encE (atE x.1 x.2)) (paired_map _ _ _ _) trivial (fun x h K k => ⟨_, _, rfl, atI_map (atE_get ((hpp x.2 (List.of_mem_zip h).2).2 x.1 (List.of_mem_zip h).1)), k⟩) ?_⟩
        refine hK _ _ ⟨rfl, ?_⟩
        unfold rowsE
        rw [if_pos hs, List.map_map]; rfl
      · have hs : r.sym ≠ s := of_decide_eq_false (hsame.symm.trans e)
        refine ⟨_, rfl, by rw [e0]; omega, lc_dat r.parts encN (fun p => encE (atE plain p)) rfl (fun p h K k => ⟨_, _, rfl, atI_map (atE_get (hpp p h).1), k⟩) ?_⟩
        refine hK _ _ ⟨rfl, ?_⟩
        unfold rowsE
        rw [if_neg hs, List.map_map]; rfl
    rintro δ M2 ⟨rfl, rfl⟩
    have hany : ((rowsE s plain tables r).map encE).any (fun z => PyData.eqv z .none) = false := by
      rw [List.any_map, List.any_eq_false]
      intro e _
      simp [encE, PyData.eqv]
    obtain ⟨hfl, hfw⟩ := flat_len _ hro
    have hfl2 : (((rowsE s plain tables r).map (·.2)).flatten).length ≤ 40000 := by omega
    refine ⟨rfl, shaped_rows hro, ?_⟩
    rw [hany]
    refine ⟨_, rfl, by rw [List.length_map, List.length_map]; omega, lc_dat (rowsE s plain tables r) encE (fun e => .int e.1) rfl (fun e _ K k => ⟨_, _, rfl, rfl, k⟩) ⟨(rowsE s plain tables r).map (·.1), by rw [List.map_map]; rfl, ?_⟩⟩
    refine seq_mid (fun δ M3 => M3 = M2 ∧ δ = [some (.dat (encG g)), some (.dat (encS s)), some (.dat (.int size)), some (.dat (.list (tables.map encERow))), some (.dat (.list (plain.map encE))), some (.ref pb), some (.dat (encN r.res)), some (.dat (.str r.word)), some (.dat (encL r.parts)), some (.dat (.bool same)), some (.dat (.list ((rowsE s plain tables r).map encE))), some (.dat (.int (((rowsE s plain tables r).map (·.1)).sum))), o12, o13, none, none, none, none]) (fun K hK => hK _ _ ⟨rfl, rfl⟩) ?_
    rintro δ M3 ⟨rfl, rfl⟩
    refine seq_mid (fun δ M4 => M4 = M3 ∧ δ = [some (.dat (encG g)), some (.dat (encS s)), some (.dat (.int size)), some (.dat (.list (tables.map encERow))), some (.dat (.list (plain.map encE))), some (.ref pb), some (.dat (encN r.res)), some (.dat (.str r.word)), some (.dat (encL r.parts)), some (.dat (.bool same)), some (.dat (.list ((rowsE s plain tables r).map encE))), some (.dat (.int (priceE s size r (rowsE s plain tables r)))), o12, o13, none, none, none, none]) (fun K hK => ?_) ?_
    · unfold priceE at hK
      refine if_b (fun e => ?_) fun e => ?_
      · have hs : r.sym ≠ s := of_decide_eq_false (hsame.symm.trans (Bool.not_eq_true' _ |>.mp e))
        rw [if_neg hs] at hK
        exact hK _ _ ⟨rfl, rfl⟩
      · have hs : r.sym = s := of_decide_eq_true (hsame.symm.trans (Bool.not_eq_false' _ |>.mp e))
        rw [if_pos hs] at hK
        exact hK _ _ ⟨rfl, rfl⟩
    rintro δ M4 ⟨rfl, rfl⟩
    refine ⟨_, rfl, ok16 rfl, ok16 rfl, _, rfl, ?_⟩
    rw [e0]
    have ef : (((rowsE s plain tables r).map fun e => e.2.map encS).flatten) = (((rowsE s plain tables r).map (·.2)).flatten).map encS := by
      rw [List.map_flatten, List.map_map]; rfl
    refine lc2_flat (enc := fun e => D.dat (encE e)) (f := fun e => e.2.map encS) ?_ (rowsE s plain tables r) (map_dat _ _) ?_ ?_ ?_ ?_
    · rfl
    · rw [ef, List.length_map]; omega
    · exact fun e he R hR => ⟨_, _, rfl, rfl, _, rfl, hR _ rfl⟩
    · exact fun e he x K k => k
    refine finL_of ⟨_, _, rfl, datsOf_map _, ?_, ?_⟩
    · show 1 + List.length _ ≤ _
      rw [ef, List.length_map]; omega
    rw [ef]
    -- the new entry
    have hnl : (newE s size plain tables r).2.length ≤ 40001 := by
      show List.length (_ :: _) ≤ _
      rw [List.length_cons]; omega
    have hnw : ∀ x ∈ (newE s size plain tables r).2, PyData.strOk x.1 = true := by
      intro x hx
      rcases List.mem_cons.mp (show x ∈ r.sym :: _ from hx) with rfl | hx
      · exact rf.word
      · exact hfw x hx
    have eb : best[r.res]? = some (best[r.res]'(by rw [hbl]; exact rf.res)) := List.getElem?_eq_getElem (by rw [hbl]; exact rf.res)
    generalize (best[r.res]'(by rw [hbl]; exact rf.res)) = old at eb
    -- what is kept when the entry is stored
    have hput : ∀ (keep : Bool), (keep = true → ∃ e, old = some e ∧ keyE e = minO (Option.map keyE old) (keyE (newE s size plain tables r))) → (keep = false → keyE (newE s size plain tables r) = minO (Option.map keyE old) (keyE (newE s size plain tables r))) → True := fun _ _ _ => trivial
    have hstep : ∀ best' : List (Option En), best'.map (Option.map keyE) = bStep s size (keys plain) (tables.map keys) (best.map (Option.map keyE)) r → l.foldl (bStep s size (keys plain) (tables.map keys)) (best'.map (Option.map keyE)) = bestK g s size (keys plain) (tables.map keys) := by
      intro best' e
      rw [e]; exact hf
    have ebs : bStep s size (keys plain) (tables.map keys) (best.map (Option.map keyE)) r = (best.map (Option.map keyE)).set r.res (some (minO (Option.map keyE old) (keyE (newE s size plain tables r)))) := by
      unfold bStep
      rw [List.getElem?_map, eb, hkey]; rfl
    clear hput
    refine seq_mid (fun δ M5 => M5 = M4 ∧ δ = [some (.dat (encG g)), some (.dat (encS s)), some (.dat (.int size)), some (.dat (.list (tables.map encERow))), some (.dat (.list (plain.map encE))), some (.ref pb), some (.dat (encN r.res)), some (.dat (.str r.word)), some (.dat (encL r.parts)), some (.dat (.bool same)), some (.dat (.list ((rowsE s plain tables r).map encE))), some (.dat (.int (priceE s size r (rowsE s plain tables r)))), some (.dat (encT (newE s size plain tables r).2)), o13, none, none, none, none]) (fun K hK => hK _ _ ⟨rfl, rfl⟩) ?_
    rintro δ M5 ⟨rfl, rfl⟩
    have el : (((newE s size plain tables r).2.map encS).map D.dat).length = (newE s size plain tables r).2.length := by rw [List.length_map, List.length_map]
    refine seq_mid (fun δ M6 => M6 = M5 ∧ δ = [some (.dat (encG g)), some (.dat (encS s)), some (.dat (.int size)), some (.dat (.list (tables.map encERow))), some (.dat (.list (plain.map encE))), some (.ref pb), some (.dat (encN r.res)), some (.dat (.str r.word)), some (.dat (encL r.parts)), some (.dat (.bool same)), some (.dat (.list ((rowsE s plain tables r).map encE))), some (.dat (.int (priceE s size r (rowsE s plain tables r)))), some (.dat (encT (newE s size plain tables r).2)), some (.dat (encE (newE s size plain tables r))), none, none, none, none]) (fun K hK => ?_) ?_
    · refine ⟨_, rfl, ?_⟩
      rw [el]
      exact ⟨ok16 rfl, hK _ _ ⟨rfl, rfl⟩⟩
    rintro δ M6 ⟨rfl, rfl⟩
    have eix : ixN ((best.map encO).map D.dat).length ((r.res : Nat) : Int) = some r.res := ixN_nat (by rw [List.length_map, List.length_map, hbl]; exact rf.res)
    have store : (keyE (newE s size plain tables r) = minO (Option.map keyE old) (keyE (newE s size plain tables r))) → K [some (.dat (encG g)), some (.dat (encS s)), some (.dat (.int size)), some (.dat (.list (tables.map encERow))), some (.dat (.list (plain.map encE))), some (.ref pb), some (.dat (encN r.res)), some (.dat (.str r.word)), some (.dat (encL r.parts)), some (.dat (.bool same)), some (.dat (.list ((rowsE s plain tables r).map encE))), some (.dat (.int (priceE s size r (rowsE s plain tables r)))), some (.dat (encT (newE s size plain tables r).2)), some (.dat (encE (newE s size plain tables r))), none, none, none, none] (updM M6 pb (.lst (((best.map encO).map D.dat).set r.res (.dat (encE (newE s size plain tables r)))))) := by
      intro e
      refine hK _ _ ⟨best.set r.res (some (newE s size plain tables r)), _, _, _, _, _, _, _, _, fun r h => hlr r (List.mem_cons_of_mem _ h), by rw [List.length_set]; exact hbl, hstep _ ?_, ?_, ?_, rfl⟩
      · rw [ebs, List.map_set, ← e]; rfl
      · intro x hx
        rcases List.mem_or_eq_of_mem_set hx with hx | hx
        · exact hg x hx
        · cases hx
          exact ⟨hnl, hnw⟩
      · rw [updM_same, List.map_set, List.map_set]; rfl
    have skip : (Option.map keyE old = some (minO (Option.map keyE old) (keyE (newE s size plain tables r)))) → K [some (.dat (encG g)), some (.dat (encS s)), some (.dat (.int size)), some (.dat (.list (tables.map encERow))), some (.dat (.list (plain.map encE))), some (.ref pb), some (.dat (encN r.res)), some (.dat (.str r.word)), some (.dat (encL r.parts)), some (.dat (.bool same)), some (.dat (.list ((rowsE s plain tables r).map encE))), some (.dat (.int (priceE s size r (rowsE s plain tables r)))), some (.dat (encT (newE s size plain tables r).2)), some (.dat (encE (newE s size plain tables r))), none, none, none, none] M6 := by
      intro e
      refine hK _ _ ⟨best, _, _, _, _, _, _, _, _, fun r h => hlr r (List.mem_cons_of_mem _ h), hbl, hstep _ ?_, hg, hM, rfl⟩
      rw [ebs, ← e]
      apply List.ext_getElem?
      intro j
      by_cases hj : r.res = j
      · subst hj
        rw [List.getElem?_set_self (by rw [List.length_map, hbl]; exact rf.res), List.getElem?_map, eb]; rfl
      · rw [List.getElem?_set_ne hj]
    refine ⟨_, _, seq_ref hM, atI_mapD (f := D.dat) (by rw [List.getElem?_map, eb]; rfl), ?_⟩
    cases old with
    | none => exact ⟨_, _, hM, eix, store rfl⟩
    | some e =>
      refine ⟨_, _, seq_ref hM, atI_mapD (f := D.dat) (x := encE e) (by rw [List.getElem?_map, eb]; rfl), cmp_E _ _, ?_⟩
      have hm := min_E (newE s size plain tables r) e
      refine if_b (fun e1 => ?_) fun e1 => ?_
      · rw [if_pos e1] at hm
        exact ⟨_, _, hM, eix, store hm⟩
      · rw [if_neg (by rw [show ltT _ _ = false from e1]; exact Bool.false_ne_true)] at hm
        exact skip (congrArg some hm)
  · rw [show bestK g s size (keys plain) (tables.map keys) = g.rules.foldl _ (tal g.n fun _ => none) from rfl, tal_map]; rfl
  · intro e he
    obtain ⟨j, _, h⟩ := List.mem_map.mp he
    cases h
  · rw [updM_same, repL_one, tal_map, tal_map, tal_map]; rfl
end DL
set_option Elab.async false
set_option linter.all false
set_option maxRecDepth 100000
set_option maxHeartbeats 4000000
namespace DL
open PySem PySem.Spec PyProof.Rows L2
/-! PLi: the nearest trees, node by node; floors_of. -/
def symAt (t : Tr) (k : Nat) : Sym := (t[k]?).getD ("", 0)
/-- B holds the keys, node by node -/
structure NearK (g : Gr) (t : Tr) (z : Row) (B : List Row) : Prop where
  len : B.length = t.length
  eq : ∀ k, k < t.length → (row2 B k).map some = bestK g (symAt t k) ((EN t k - k : Nat) : Int) z ((BN t k).map (row2 B))
  few : ∀ row ∈ B, ∀ p ∈ row, p.2 ≤ 10000
  rows : ∀ row ∈ B, row.length = g.n
def plainE (least : List Tr) : ERow := least.map fun t => (((t.length : Nat) : Int), t)
structure LeastOk (n : Nat) (least : List Tr) : Prop where
  len : least.length = n
  few : ∀ t ∈ least, t.length ≤ 10000
  word : ∀ t ∈ least, ∀ s ∈ t, PyData.strOk s.1 = true
def sp_nearest_by_node : PSp := fun qs Qd _ => ∃ (g : Gr) (t : Tr) (least : List Tr) (B : List Row), qs = [encG g, encT t, .tuple (least.map encT)] ∧ GrOk g ∧ (∀ r ∈ g.rules, r.parts.length ≤ 4) ∧ TrOk t ∧ LeastOk g.n least ∧ NearK g t (keys (plainE least)) B ∧
  ∀ tb : List ERow, tb.map keys = B → Qd (.list (tb.map encERow))
theorem some_all : ∀ {best : List (Option En)} {row : Row}, best.map (Option.map keyE) = row.map some → ∃ es : ERow, best = es.map some ∧ keys es = row
  | [], [], _ => ⟨[], rfl, rfl⟩
  | [], _ :: _, h => by cases h
  | _ :: _, [], h => by cases h
  | none :: _, _ :: _, h => by cases h
  | some e :: best, k :: row, h => by
    rw [List.map_cons, List.map_cons] at h
    obtain ⟨h1, h2⟩ := List.cons.inj h
    obtain ⟨es, e1, e2⟩ := some_all h2
    refine ⟨e :: es, by rw [e1]; rfl, ?_⟩
    show keyE e :: keys es = _
    rw [e2, Option.some.inj h1]
theorem len_nearest_by_node {a b c} (h : sp_nearest_by_node a b c) : a.length = 3 := by
  obtain ⟨g, t, least, B, rfl, _⟩ := h; rfl
def t_nearest_by_node : DS :=
  dSeq (dAsg (dLc (iSeq (dVar 2)) (dName 9) (dYes) (dIf (dB (dOp isD (dVar 9) (dC .none))) (dC .none) (dTup (aCons (dCB lenC (aCons (dVar 9) (aNil))) (aCons (dCB lenC (aCons (dVar 9) (aNil))) (aCons (dVar 9) (aNil)))))) [9] finL) (dName 3)) (dSeq (dAsg (dCallP sp_nodes_beneath (aCons (dVar 1) (aNil))) (dName 4)) (dSeq (dAsg (dCallP sp_piece_sizes (aCons (dVar 4) (aNil))) (dName 5)) (dSeq (dAsg (dLc (iSeq (dVar 1)) (dName 10) (dYes) (dLst (aNil)) [10] finM) (dName 6)) (dSeq (dFor (iRevRange (dCB lenC (aCons (dVar 1) (aNil)))) (dName 7) (dSeq (dAsg (dLc (iSeq (dOp ixD (dVar 4) (dVar 7))) (dName 11) (dYes) (dOp ixD (dVar 6) (dVar 11)) [11] finL) (dName 8)) (dAsg (dCallP sp_nearest_here (aCons (dVar 0) (aCons (dOp ixD (dVar 1) (dVar 7)) (aCons (dOp ixD (dVar 5) (dVar 7)) (aCons (dVar 8) (aCons (dVar 3) (aNil))))))) (dSub (dVar 6) (dVar 7) (setL))))) (dRet (dVar 6))))))
theorem law_nearest_by_node {a b c} (h : sp_nearest_by_node a b c) : t_nearest_by_node { nx := fun _ _ => b .none, rt := fun d M => ∃ r, viewD M d = some r ∧ b r } (startD ["driven", "tree", "least", "plain", "beneath", "sizes", "found", "node", "tables", "other", "symbol", "part"] (a.map .dat)) M0 := by
  obtain ⟨g, t, least, B, rfl, gk, h4, ⟨w, tl, to⟩, lk, nk, q⟩ := h
  have hgn := gk.few
  have e0 : ((t.map encS).map D.dat).length = t.length := by rw [List.length_map, List.length_map]
  refine ⟨_, rfl, by rw [List.length_map, List.length_map, lk.len]; omega, lc_dat least encT (fun t => encE (((t.length : Nat) : Int), t)) rfl (fun t ht K k => ?_) ⟨_, rfl, t, rfl, w, tl, _, rfl, t, rfl, w, tl, _, rfl, by rw [e0]; omega, ?_⟩⟩
  · have el : ((t.map encS).map D.dat).length = t.length := by rw [List.length_map, List.length_map]
    refine ⟨_, rfl, _, rfl, ?_⟩
    rw [el]
    exact ⟨ok16 rfl, k⟩
  refine lc_map t (fun s => D.dat (encS s)) (fun _ => .dat (.list [])) (map_dat _ _) rfl (fun s hs K k => ⟨ok16 rfl, k⟩) fun pf hpf => ⟨_, rfl, ?_⟩
  rw [e0]
  have ep : least.map (fun t => encE (((t.length : Nat) : Int), t)) = (plainE least).map encE := by unfold plainE; rw [List.map_map]; rfl
  rw [ep]
  have em : (t.map fun _ => D.dat (.list [])) = (tal t.length fun _ => PyData.list []).map D.dat := by
    unfold tal
    rw [List.map_map]
    apply List.ext_getElem?
    intro j
    rw [List.getElem?_map, List.getElem?_map]
    by_cases hj : j < t.length
    · rw [List.getElem?_range hj, List.getElem?_eq_getElem hj]; rfl
    · rw [List.getElem?_eq_none (by omega), List.getElem?_eq_none (by rw [List.length_range]; omega)]; rfl
  refine ⟨by omega, goFor_down (fun k δ M => ∃ (tb : Nat → ERow) (o7 o8 : Option D), k ≤ t.length ∧ (∀ j, k ≤ j → j < t.length → keys (tb j) = row2 B j ∧ ∀ e ∈ tb j, ∀ s ∈ e.2, PyData.strOk s.1 = true) ∧ M pf = some (.lst ((tal t.length fun j => if k ≤ j then encERow (tb j) else .list []).map D.dat)) ∧
    δ = [some (.dat (encG g)), some (.dat (encT t)), some (.dat (.tuple (least.map encT))), some (.dat (.list ((plainE least).map encE))), some (.dat (.list (tal t.length fun k => encL (BN t k)))), some (.dat (.list (tal t.length fun k => encN (EN t k - k)))), some (.ref pf), o7, o8, none, none, none]) ?_ ?_ t.length ⟨fun _ => [], none, none, Nat.le_refl _, fun j h1 h2 => absurd h2 (by omega), ?_, rfl⟩⟩
  · rintro δ M ⟨tb, o7, o8, _, htb, hM, rfl⟩
    refine ⟨trivial, ⟨_, view_lst hM, ?_⟩⟩
    have e1 : (tal t.length fun j => if 0 ≤ j then encERow (tb j) else PyData.list []) = (tal t.length tb).map encERow := by
      rw [tal_map]
      exact tal_ext fun i hi => by rw [if_pos (Nat.zero_le _)]
    rw [e1]
    refine q _ ?_
    rw [tal_map]
    apply List.ext_getElem?
    intro j
    by_cases hj : j < t.length
    · rw [tal_get hj, row2_get (by rw [nk.len]; exact hj), (htb j (Nat.zero_le _) hj).1]
    · rw [List.getElem?_eq_none (by rw [tal_len]; omega), List.getElem?_eq_none (by rw [nk.len]; omega)]
  · rintro k δ M K ⟨tb, o7, o8, hk, htb, hM, rfl⟩ hK
    have es : t[k]? = some (symAt t k) := by unfold symAt; rw [List.getElem?_eq_getElem hk]; rfl
    have hrl := RT_len t (k + 1)
    refine ⟨trivial, _, _, rfl, atI_nat (tal_getD hk), _, rfl, ?_, lc_dat (BN t k) encN (fun c => encERow (tb c)) rfl (fun c hc K kk => ⟨_, _, seq_ref hM, atI_nat (tal_getD (BN_mem hc).2), ?_⟩) ?_⟩
    · rw [List.length_map, List.length_map]
      unfold BN
      rw [List.length_take]; omega
    · rw [if_pos (by have := (BN_mem hc).1; omega)]
      exact kk
    have hN := nk.eq k hk
    have hkeys : ((BN t k).map tb).map keys = (BN t k).map (row2 B) := by
      rw [List.map_map]
      refine List.map_congr_left fun c hc => ?_
      have := BN_mem hc
      exact (htb c (by omega) this.2).1
    have hcB : ∀ c ∈ BN t k, row2 B c ∈ B := fun c hc => List.mem_of_getElem? (row2_get (by rw [nk.len]; exact (BN_mem hc).2))
    have hpl : ∀ e ∈ plainE least, EnOk e := fun e he => by
      obtain ⟨x, hx, rfl⟩ := List.mem_map.mp he
      exact ⟨lk.few x hx, lk.word x hx⟩
    have htabs : ∀ x ∈ (BN t k).map tb, x.length = g.n ∧ ∀ e ∈ x, EnOk e := by
      intro x hx
      obtain ⟨c, hc, rfl⟩ := List.mem_map.mp hx
      have hcm := BN_mem hc
      obtain ⟨hk1, hk2⟩ := htb c (by omega) hcm.2
      refine ⟨?_, fun e he => ⟨?_, hk2 e he⟩⟩
      · have := nk.rows _ (hcB c hc)
        rw [← hk1] at this
        unfold keys at this
        rw [List.length_map] at this
        exact this
      · have hm : keyE e ∈ row2 B c := by rw [← hk1]; exact List.mem_map_of_mem he
        have := nk.few _ (hcB c hc) _ hm
        have h2 : ((e.2.length : Nat) : Int) ≤ 10000 := this
        omega
    refine ⟨_, _, rfl, atI_map es, _, _, rfl, atI_nat (tal_getD hk), _, rfl, g, symAt t k, ((EN t k - k : Nat) : Int), plainE least, (BN t k).map tb, ?_, gk, h4, to _ (List.mem_of_getElem? es), ?_, hpl, ?_, htabs, fun best hb hgood => ?_⟩
    · rw [List.map_map]; rfl
    · unfold plainE; rw [List.length_map]; exact lk.len
    · unfold BN; rw [List.length_map, List.length_take]; omega
    rw [hkeys, ← hN] at hb
    obtain ⟨es', e1, e2⟩ := some_all hb
    subst e1
    refine ⟨_, _, hM, ixN_nat (by rw [List.length_map, tal_len]; omega), hK _ _ ⟨fun j => if j = k then es' else tb j, _, _, by omega, fun j h1 h2 => ?_, ?_, rfl⟩⟩
    · dsimp only
      by_cases e : j = k
      · subst e
        rw [if_pos rfl]
        exact ⟨e2, fun e he => (hgood e (List.mem_map_of_mem he)).2⟩
      · rw [if_neg e]
        exact htb j (by omega) h2
    · rw [updM_same, show (es'.map some).map encO = es'.map encE by rw [List.map_map]; rfl, show D.dat (PyData.list (es'.map encE)) = D.dat (encERow es') from rfl, ← List.map_set, tal_set]
      congr 3
      refine tal_ext fun i hi => ?_
      dsimp only
      by_cases e : i = k
      · subst e; rw [if_pos rfl, if_pos (Nat.le_refl _), if_pos rfl]
      · rw [if_neg e]
        by_cases e3 : k + 1 ≤ i
        · rw [if_pos e3, if_pos (by omega), if_neg e]
        · rw [if_neg e3, if_neg (by omega)]
  · rw [updM_same, em]
    congr 3
    exact tal_ext fun i hi => by rw [if_neg (by omega)]
end DL
set_option Elab.async false
set_option linter.all false
set_option maxRecDepth 100000
set_option maxHeartbeats 4000000
namespace DL
open PySem PySem.Spec PyProof.Rows L2
/-! PM2: derivations, least lengths. -/
inductive Der (g : Gr) : Nat → Nat → Prop
  | of (r : Rl) (f : Nat → Nat) : r ∈ g.rules → (∀ p ∈ r.parts, Der g p (f p)) → Der g r.res (1 + (r.parts.map f).sum)
structure IsLeast (g : Gr) (l : Nat → Nat) : Prop where
  der : ∀ i, i < g.n → Der g i (l i)
  least : ∀ i m, i < g.n → Der g i m → l i ≤ m
theorem IsLeast.uniq {g : Gr} {l l' : Nat → Nat} (h : IsLeast g l) (h' : IsLeast g l') {i : Nat} (hi : i < g.n) : l i = l' i :=
  Nat.le_antisymm (h.least i _ hi (h'.der i hi)) (h'.least i _ hi (h.der i hi))
theorem Der.pos {g : Gr} {i n : Nat} (h : Der g i n) : 0 < n := by
  cases h with
  | of r f _ _ => omega
theorem sum_mono {l : List Nat} {f f' : Nat → Nat} (h : ∀ p ∈ l, f p ≤ f' p) : (l.map f).sum ≤ (l.map f').sum := by
  induction l with
  | nil => exact Nat.le_refl _
  | cons p l ih =>
    rw [List.map_cons, List.map_cons, List.sum_cons, List.sum_cons]
    have h1 := h p List.mem_cons_self
    have h2 := ih fun q hq => h q (List.mem_cons_of_mem _ hq)
    omega
theorem mem_sum {l : List Nat} {f : Nat → Nat} {p : Nat} (h : p ∈ l) : f p ≤ (l.map f).sum := by
  induction l with
  | nil => cases h
  | cons q l ih =>
    rw [List.map_cons, List.sum_cons]
    rcases List.mem_cons.mp h with rfl | h
    · omega
    · have := ih h; omega
end DL
set_option Elab.async false
set_option linter.all false
set_option maxRecDepth 100000
set_option maxHeartbeats 4000000
namespace DL
open PySem PySem.Spec PyProof.Rows L2
/-! PM3: least lengths: their ranks, a bound; the law's rounds reach them. -/
theorem exists_min {P : Nat → Prop} (h : ∃ n, P n) : ∃ n, P n ∧ ∀ m, P m → n ≤ m := by
  obtain ⟨n, hn⟩ := h
  induction n using Nat.strongRecOn with
  | ind n ih =>
    by_cases e : ∃ m, m < n ∧ P m
    · obtain ⟨m, h1, h2⟩ := e
      exact ih m h1 h2
    · exact ⟨n, hn, fun m hm => Nat.le_of_not_lt fun hlt => e ⟨m, hlt, hm⟩⟩
theorem least_ex {g : Gr} (h : ∀ i, i < g.n → ∃ m, Der g i m) : ∃ l, IsLeast g l := by
  have h2 : ∀ i, ∃ m, i < g.n → Der g i m ∧ ∀ k, Der g i k → m ≤ k := fun i => by
    by_cases hi : i < g.n
    · obtain ⟨m, h1, h2⟩ := exists_min (h i hi)
      exact ⟨m, fun _ => ⟨h1, h2⟩⟩
    · exact ⟨0, fun z => absurd z hi⟩
  exact ⟨fun i => Classical.choose (h2 i), fun i hi => (Classical.choose_spec (h2 i) hi).1, fun i m hi hm => (Classical.choose_spec (h2 i) hi).2 m hm⟩
section
variable {g : Gr} {l : Nat → Nat}
theorem IsLeast.rule (h : IsLeast g l) (gk : GrOk g) {i : Nat} (hi : i < g.n) : ∃ r ∈ g.rules, r.res = i ∧ 1 + (r.parts.map l).sum ≤ l i := by
  have d := h.der i hi
  generalize e : l i = m at d
  cases d with
  | of r f hr hf =>
    refine ⟨r, hr, rfl, ?_⟩
    have : (r.parts.map l).sum ≤ (r.parts.map f).sum := sum_mono fun p hp => h.least p _ ((gk.rf r hr).parts p hp) (hf p hp)
    omega
theorem IsLeast.le (h : IsLeast g l) (gk : GrOk g) {r : Rl} (hr : r ∈ g.rules) : l r.res ≤ 1 + (r.parts.map l).sum := h.least _ _ ((gk.rf r hr).res) (Der.of r l hr fun p hp => h.der p ((gk.rf r hr).parts p hp))
/-- how many names have a lesser least length -/
def rk (n : Nat) (l : Nat → Nat) (i : Nat) : Nat := ((List.range n).filter fun j => decide (l j < l i)).length
theorem rk_lt {n i : Nat} (hi : i < n) : rk n l i < n := by
  have : ((List.range n).filter fun j => decide (l j < l i)).length < (List.range n).length := List.length_filter_lt_length_iff_exists.mpr ⟨i, List.mem_range.mpr hi, by simp⟩
  rw [List.length_range] at this
  exact this
theorem rk_mono {n p i : Nat} (hp : p < n) (h : l p < l i) : rk n l p < rk n l i := by
  unfold rk
  have e : ((List.range n).filter fun j => decide (l j < l p)) = ((List.range n).filter fun j => decide (l j < l i)).filter fun j => decide (l j < l p) := by
    rw [List.filter_filter]
    refine List.filter_congr fun j _ => ?_
    by_cases h1 : l j < l p
    · have h2 : l j < l i := by omega
      simp [h1, h2]
    · simp [h1]
  rw [e]
  exact List.length_filter_lt_length_iff_exists.mpr ⟨p, by simp [hp, h], by simp⟩
def cap : Nat → Nat
  | 0 => 1
  | k + 1 => 1 + 4 * cap k
theorem cap_mono {a b : Nat} (h : a ≤ b) : cap a ≤ cap b := by
  induction b with
  | zero => rw [Nat.le_zero.mp h]; exact Nat.le_refl _
  | succ b ih =>
    rcases Nat.lt_or_ge a (b + 1) with h1 | h1
    · have := ih (by omega)
      rw [show cap (b + 1) = 1 + 4 * cap b from rfl]; omega
    · rw [show a = b + 1 by omega]; exact Nat.le_refl _
theorem sum_le {ps : List Nat} {f : Nat → Nat} {c : Nat} (h : ∀ p ∈ ps, f p ≤ c) : (ps.map f).sum ≤ ps.length * c := by
  induction ps with
  | nil => simp
  | cons p ps ih =>
    have h1 := h p List.mem_cons_self
    have h2 := ih fun q hq => h q (List.mem_cons_of_mem _ hq)
    rw [List.map_cons, List.sum_cons, List.length_cons, Nat.succ_mul]
    omega
theorem IsLeast.cap_le (h : IsLeast g l) (gk : GrOk g) (h4 : ∀ r ∈ g.rules, r.parts.length ≤ 4) : ∀ (k i : Nat), i < g.n → rk g.n l i ≤ k → l i ≤ cap k := by
  intro k
  induction k with
  | zero =>
    intro i hi hk
    obtain ⟨r, hr, e, hl⟩ := h.rule gk hi
    cases hp : r.parts with
    | nil =>
      have := h.le gk hr
      rw [e, hp] at this
      exact this
    | cons p ps =>
      have hpm : p ∈ r.parts := by rw [hp]; exact List.mem_cons_self
      have h1 : l p ≤ (r.parts.map l).sum := mem_sum hpm
      have := rk_mono (n := g.n) ((gk.rf r hr).parts p hpm) (show l p < l i by omega)
      omega
  | succ k ih =>
    intro i hi hk
    obtain ⟨r, hr, e, hl⟩ := h.rule gk hi
    have hb : ∀ p ∈ r.parts, l p ≤ cap k := fun p hp => by
      have h1 : l p ≤ (r.parts.map l).sum := mem_sum hp
      have := rk_mono (n := g.n) ((gk.rf r hr).parts p hp) (show l p < l i by omega)
      exact ih p ((gk.rf r hr).parts p hp) (by omega)
    have h2 := sum_le hb
    have h3 := h4 r hr
    have h5 := h.le gk hr
    rw [e] at h5
    have h6 : r.parts.length * cap k ≤ 4 * cap k := Nat.mul_le_mul_right _ h3
    rw [show cap (k + 1) = 1 + 4 * cap k from rfl]
    omega
/-- what the law's grammars keep -/
structure GrT (g : Gr) : Prop where
  ok : GrOk g
  few : g.n ≤ 4
  four : ∀ r ∈ g.rules, r.parts.length ≤ 4
  syms : ∀ r ∈ g.rules, SymOk r.sym
  der : ∀ i, i < g.n → ∃ m, Der g i m
theorem GrT.le85 (k : GrT g) (h : IsLeast g l) {i : Nat} (hi : i < g.n) : l i ≤ 85 := by
  have h1 := rk_lt (l := l) hi
  have h2 := k.few
  exact h.cap_le k.ok k.four 3 i hi (by omega)
/-- the rounds, by lengths alone -/
def vStep (V : Nat → Nat) (r : Rl) : Nat → Nat := fun j => if j = r.res then min (V r.res) (1 + (r.parts.map V).sum) else V j
def dupl (n : Nat) (V : Nat → Nat) : Row := tal n fun i => (((V i : Nat) : Int), ((V i : Nat) : Int))
theorem dupl_at {n i : Nat} {V : Nat → Nat} (h : i < n) : at2 (dupl n V) i = (((V i : Nat) : Int), ((V i : Nat) : Int)) := by
  have h1 := at2_get (r := dupl n V) (i := i) (by unfold dupl; rw [tal_len]; exact h)
  unfold dupl at h1
  rw [tal_get h] at h1
  exact (Option.some.inj h1).symm
theorem sum_dup {n : Nat} {V : Nat → Nat} : ∀ {ps : List Nat}, (∀ p ∈ ps, p < n) → ((ps.map (at2 (dupl n V))).map (·.1)).sum = (((ps.map V).sum : Nat) : Int) ∧ ((ps.map (at2 (dupl n V))).map (·.2)).sum = (((ps.map V).sum : Nat) : Int)
  | [], _ => ⟨rfl, rfl⟩
  | p :: ps, h => by
    obtain ⟨h1, h2⟩ := sum_dup (V := V) fun q hq => h q (List.mem_cons_of_mem _ hq)
    have hp := dupl_at (V := V) (h p List.mem_cons_self)
    simp only [List.map_cons, List.sum_cons, h1, h2, hp]
    omega
theorem addPs_dup {n : Nat} {V : Nat → Nat} {c d : Int} {ps : List Nat} (h : ∀ p ∈ ps, p < n) : addPs (c, d) (ps.map (at2 (dupl n V))) = (c + (((ps.map V).sum : Nat) : Int), d + (((ps.map V).sum : Nat) : Int)) := by
  unfold addPs
  rw [(sum_dup h).1, (sum_dup h).2]
theorem min2_dup (a b : Nat) : min2 ((a : Int), (a : Int)) ((b : Int), (b : Int)) = (((min a b : Nat) : Int), ((min a b : Nat) : Int)) := by
  unfold min2 pLt
  by_cases h : b < a
  · rw [if_pos (decide_eq_true (.inl (by omega))), Nat.min_eq_right (by omega)]
  · rw [if_neg (fun z => by have := of_decide_eq_true z; omega), Nat.min_eq_left (by omega)]
theorem zStep_dup {n : Nat} {V : Nat → Nat} {r : Rl} (h : RlFit n r) : zStep (dupl n V) r = dupl n (vStep V r) := by
  unfold zStep
  rw [addPs_dup h.parts, dupl_at h.res]
  rw [show (1 : Int) + (((r.parts.map V).sum : Nat) : Int) = ((1 + (r.parts.map V).sum : Nat) : Int) by omega, min2_dup]
  unfold dupl
  rw [tal_set]
  refine tal_ext fun i hi => ?_
  unfold vStep
  by_cases e : i = r.res
  · rw [if_pos e, if_pos e]
  · rw [if_neg e, if_neg e]
theorem zFold_dup {n : Nat} : ∀ {rs : List Rl} {V : Nat → Nat}, (∀ r ∈ rs, RlFit n r) → rs.foldl zStep (dupl n V) = dupl n (rs.foldl vStep V)
  | [], _, _ => rfl
  | r :: rs, V, h => by
    rw [List.foldl_cons, List.foldl_cons, zStep_dup (h r List.mem_cons_self)]
    exact zFold_dup fun x hx => h x (List.mem_cons_of_mem _ hx)
theorem vStep_le (V : Nat → Nat) (r : Rl) (j : Nat) : vStep V r j ≤ V j := by
  unfold vStep
  by_cases e : j = r.res
  · rw [if_pos e, e]; exact Nat.min_le_left _ _
  · rw [if_neg e]; exact Nat.le_refl _
theorem vFold_le : ∀ (rs : List Rl) (V : Nat → Nat) (j : Nat), rs.foldl vStep V j ≤ V j
  | [], _, _ => Nat.le_refl _
  | r :: rs, V, j => Nat.le_trans (vFold_le rs (vStep V r) j) (vStep_le V r j)
theorem vFold_rule : ∀ {rs : List Rl} {V : Nat → Nat} {r : Rl}, r ∈ rs → rs.foldl vStep V r.res ≤ 1 + (r.parts.map V).sum
  | x :: rs, V, r, h => by
    rw [List.foldl_cons]
    rcases List.mem_cons.mp h with rfl | h
    · refine Nat.le_trans (vFold_le rs _ _) ?_
      unfold vStep
      rw [if_pos rfl]; exact Nat.min_le_right _ _
    · refine Nat.le_trans (vFold_rule h) ?_
      have := sum_mono (l := r.parts) (f := vStep V x) (f' := V) fun p _ => vStep_le V x p
      omega
theorem vFold_ge (h : IsLeast g l) (gk : GrOk g) : ∀ {rs : List Rl} {V : Nat → Nat}, (∀ r ∈ rs, r ∈ g.rules) → (∀ i, i < g.n → l i ≤ V i) → ∀ i, i < g.n → l i ≤ rs.foldl vStep V i
  | [], _, _, hv => hv
  | r :: rs, V, hr, hv => by
    rw [List.foldl_cons]
    refine vFold_ge h gk (fun x hx => hr x (List.mem_cons_of_mem _ hx)) fun i hi => ?_
    unfold vStep
    by_cases e : i = r.res
    · rw [if_pos e]
      have hr' := hr r List.mem_cons_self
      have h1 := h.le gk hr'
      have h2 := sum_mono (l := r.parts) (f := l) (f' := V) fun p hp => hv p ((gk.rf r hr').parts p hp)
      have h3 := hv i hi
      rw [e] at h3 ⊢
      exact Nat.le_min.mpr ⟨h3, by omega⟩
    · rw [if_neg e]; exact hv i hi
def vAll (g : Gr) (k : Nat) : Nat → Nat := iter (fun V => g.rules.foldl vStep V) k fun _ => 1000
theorem vAll_ge (k : GrT g) (h : IsLeast g l) : ∀ (m i : Nat), i < g.n → l i ≤ vAll g m i
  | 0, i, hi => by
    have := k.le85 h hi
    show l i ≤ 1000
    omega
  | m + 1, i, hi => vFold_ge h k.ok (fun _ z => z) (vAll_ge k h m) i hi
theorem vAll_le (k : GrT g) (h : IsLeast g l) : ∀ (m i : Nat), i < g.n → rk g.n l i < m → vAll g m i ≤ l i
  | 0, i, hi, hm => by omega
  | m + 1, i, hi, hm => by
    obtain ⟨r, hr, e, hl⟩ := h.rule k.ok hi
    have h1 : vAll g (m + 1) i ≤ 1 + (r.parts.map (vAll g m)).sum := by
      rw [← e]; exact vFold_rule hr
    have h2 : (r.parts.map (vAll g m)).sum ≤ (r.parts.map l).sum := sum_mono fun p hp => by
      have hp' := (k.ok.rf r hr).parts p hp
      have h3 : l p ≤ (r.parts.map l).sum := mem_sum hp
      have := rk_mono (n := g.n) hp' (show l p < l i by omega)
      exact vAll_le k h m p hp' (by omega)
    omega
theorem zAll_iter (gk : GrOk g) : ∀ m : Nat, iter (zRound g) m (tal g.n fun _ => topP) = dupl g.n (vAll g m)
  | 0 => rfl
  | m + 1 => by
    show zRound g (iter (zRound g) m _) = _
    rw [zAll_iter gk m]
    exact zFold_dup gk.rf
/-- the law's rounds give the least lengths -/
theorem zAll_eq (k : GrT g) (h : IsLeast g l) : zAll g = dupl g.n l := by
  unfold zAll
  rw [zAll_iter k.ok]
  unfold dupl
  refine tal_ext fun i hi => ?_
  rw [Nat.le_antisymm (vAll_le k h g.n i hi (rk_lt hi)) (vAll_ge k h g.n i hi)]
end
end DL
set_option Elab.async false
set_option linter.all false
set_option maxRecDepth 100000
set_option maxHeartbeats 4000000
namespace DL
open PySem PySem.Spec PyProof.Rows L2
/-! PLj: who uses a name. -/
def Stays (M M' : Mp) : Prop := ∀ b o, M b = some o → M' b = some o
theorem Stays.refl {M : Mp} : Stays M M := fun _ _ h => h
theorem Stays.trans {M M1 M2 : Mp} (h : Stays M M1) (h' : Stays M1 M2) : Stays M M2 := fun b o k => h' b o (h b o k)
theorem Stays.put {M M' : Mp} {c : Addr} {o : MO} (h : Stays M M') (e : M c = none) : Stays M (updM M' c o) := fun b o' k => by
  rw [updM_ne (fun z => by subst z; rw [e] at k; cases k)]; exact h b o' k
theorem Stays.fresh {M M' : Mp} {c : Addr} (h : Stays M M') (e : M' c = none) : M c = none := by
  cases q : M c with
  | none => rfl
  | some o => rw [h c o q] at e; cases e
/-- the rules below j that have i as a part -/
def nums (rules : List Rl) (i j : Nat) : List Nat := (List.range j).filter fun k => (rules[k]?).any fun r => decide (i ∈ r.parts)
theorem nums_succ {rules : List Rl} {i j : Nat} {r : Rl} (h : rules[j]? = some r) : nums rules i (j + 1) = if i ∈ r.parts then nums rules i j ++ [j] else nums rules i j := by
  unfold nums
  rw [List.range_succ, List.filter_append]
  by_cases e : i ∈ r.parts
  · rw [if_pos e]
    congr 1
    simp [h, e]
  · rw [if_neg e]
    simp [h, e]
theorem nums_mem {rules : List Rl} {i j k : Nat} : k ∈ nums rules i j ↔ k < j ∧ ∃ r, rules[k]? = some r ∧ i ∈ r.parts := by
  unfold nums
  rw [List.mem_filter, List.mem_range]
  constructor
  · rintro ⟨h1, h2⟩
    cases e : rules[k]? with
    | none => rw [e] at h2; cases h2
    | some r => rw [e] at h2; exact ⟨h1, r, rfl, of_decide_eq_true h2⟩
  · rintro ⟨h1, r, e, h2⟩
    rw [e]
    exact ⟨h1, decide_eq_true h2⟩
theorem nums_nodup {rules : List Rl} {i j : Nat} : (nums rules i j).Nodup := List.nodup_range.filter _
theorem nums_len {rules : List Rl} {i j : Nat} : (nums rules i j).length ≤ j := by
  have := List.length_filter_le (fun k => (rules[k]?).any fun r => decide (i ∈ r.parts)) (List.range j)
  rw [List.length_range] at this
  exact this
abbrev nD (k : Nat) : D := .dat (encN k)
/-- F is held: by each name its list -/
structure UsersF (F : Nat → List Nat) (M M' : Mp) (pu : Addr) (kvs : List (Key × D)) : Prop where
  dct : M' pu = some (.dct kvs)
  new : M pu = none
  at_ : ∀ i : Nat, (valD kvs (kI i) = none ∧ F i = []) ∨ ∃ q, valD kvs (kI i) = some (.ref q) ∧ M q = none ∧ q ≠ pu ∧ M' q = some (.lst ((F i).map nD))
  inj : ∀ (i j : Nat) q, valD kvs (kI i) = some (.ref q) → valD kvs (kI j) = some (.ref q) → i = j
  stays : Stays M M'
def sp_users_of : MSp := fun ds M Q => ∃ rules : List Rl, ds = [.dat (.tuple (rules.map encR))] ∧ rules.length ≤ 1000 ∧ (∀ r ∈ rules, r.parts.length ≤ 60) ∧ ∀ pu kvs M', UsersF (fun i => nums rules i rules.length) M M' pu kvs → Q (.ref pu) M'
theorem once_nat {ps : List Nat} {l : List Int} (h : Once (ps.map fun p => ((p : Nat) : Int)) l) : ∃ ls : List Nat, l = ls.map (fun p => ((p : Nat) : Int)) ∧ ls.Nodup ∧ ∀ k, k ∈ ls ↔ k ∈ ps := by
  obtain ⟨h1, h2⟩ := h
  refine ⟨l.map Int.toNat, ?_, ?_, ?_⟩
  · rw [List.map_map]
    have : l = l.map id := (List.map_id l).symm
    conv => lhs; rw [this]
    refine List.map_congr_left fun k hk => ?_
    obtain ⟨p, _, e⟩ := List.mem_map.mp ((h2 k).mp hk)
    show k = ((k.toNat : Nat) : Int)
    omega
  · refine List.Pairwise.map _ ?_ (List.Pairwise.and_mem.mp h1)
    rintro a b ⟨ha, hb, hab⟩ e
    obtain ⟨p, _, e1⟩ := List.mem_map.mp ((h2 a).mp ha)
    obtain ⟨p', _, e2⟩ := List.mem_map.mp ((h2 b).mp hb)
    exact hab (by omega)
  · intro k
    constructor
    · intro hk
      obtain ⟨a, ha, rfl⟩ := List.mem_map.mp hk
      obtain ⟨p, hp, e⟩ := List.mem_map.mp ((h2 a).mp ha)
      have : a.toNat = p := by omega
      rw [this]; exact hp
    · intro hk
      exact List.mem_map.mpr ⟨((k : Nat) : Int), (h2 _).mpr (List.mem_map.mpr ⟨k, hk, rfl⟩), by omega⟩
theorem encL_ints (ps : List Nat) : ps.map encN = (ps.map fun p => ((p : Nat) : Int)).map PyData.int := by rw [List.map_map]; rfl
theorem len_users_of {a b c} (h : sp_users_of a b c) : a.length = 1 := by
  obtain ⟨rules, rfl, _⟩ := h; rfl
def t_users_of : DS :=
  dSeq (dAsg (dNewDct) (dName 1)) (dSeq (dFor (iEnumD (dVar 0)) (dTupG 2 (gsCons (dName 2) (gsCons (dName 3) (gsNil)))) (dFor (iSeq (dSortSet (dOp ixD (dVar 3) (dC (.int 2))))) (dName 4) (dDrop (dMeth appendM (dSetd (dVar 1) (dVar 4) (dLstM (aNil))) (aCons (dVar 2) (aNil)))))) (dRet (dVar 1)))
theorem law_users_of {a b c} (h : sp_users_of a b c) : t_users_of { nx := fun _ M' => c (.dat .none) M', rt := c } (startD ["rules", "users", "number", "rule", "part"] a) b := by
  obtain ⟨rules, rfl, hl, hp, q⟩ := h
  refine fun pu hpu => goFor_num rules encR (fun j δ M => ∃ kvs o2 o3 o4, kvs.length ≤ 60 * j ∧ UsersF (fun i => nums rules i j) b M pu kvs ∧ δ = [some (.dat (.tuple (rules.map encR))), some (.ref pu), o2, o3, o4]) ?_ ?_ ⟨[], none, none, none, Nat.zero_le _, ⟨updM_same, hpu, fun i => .inl ⟨rfl, rfl⟩, fun i j q h => (by cases h), Stays.refl.put hpu⟩, rfl⟩
  · rintro δ M ⟨kvs, o2, o3, o4, _, U, rfl⟩
    exact ⟨trivial, q pu kvs M U⟩
  · rintro j r δ M K er ⟨kvs, o2, o3, o4, hk, U, rfl⟩ hK
    have hjl := (List.getElem?_eq_some_iff.mp er).1
    have hr := hp r (List.mem_of_getElem? er)
    refine ⟨trivial, rfl, rfl, ?_⟩
    refine ⟨_, _, rfl, rfl, _, encL_ints _, by rw [List.length_map]; exact hr, fun l hl2 => ?_⟩
    have hll := once_len hl2
    rw [List.length_map] at hll
    obtain ⟨ls, rfl, nd, mem⟩ := once_nat hl2
    rw [List.length_map] at hll
    refine ⟨_, rfl, ?_⟩
    have F0 : (fun i => nums rules i j) = fun i => if i ∈ ls then nums rules i j else nums rules i (j + 1) := by
      funext i
      by_cases e : i ∈ ls
      · rw [if_pos e]
      · rw [if_neg e, nums_succ er, if_neg (fun z => e ((mem i).mpr z))]
    rw [F0] at U
    refine goFor_ind nD (fun ls' δ M => ∃ kvs o4, ls'.Nodup ∧ (∀ x ∈ ls', x ∈ r.parts) ∧ kvs.length + ls'.length ≤ 60 * j + ls.length ∧ UsersF (fun i => if i ∈ ls' then nums rules i j else nums rules i (j + 1)) b M pu kvs ∧ δ = [some (.dat (.tuple (rules.map encR))), some (.ref pu), some (nD j), some (.dat (encR r)), o4]) ?_ ?_ ls ?_ ⟨kvs, o4, nd, fun x hx => (mem x).mp hx, by omega, U, rfl⟩
    · rintro δ M ⟨kvs, o4, _, _, hk, U, rfl⟩
      refine ⟨?_, hK _ _ ⟨kvs, _, _, _, ?_, ?_, rfl⟩⟩
      · rfl
      · rw [List.length_nil] at hk; omega
      · have : (fun i => if i ∈ ([] : List Nat) then nums rules i j else nums rules i (j + 1)) = fun i => nums rules i (j + 1) := by
          funext i; rw [if_neg (List.not_mem_nil)]
        rw [this] at U
        exact U
    · rintro x l δ M K2 ⟨kvs, o4, nd, hx, hk, U, rfl⟩ hK2
      obtain ⟨nx, nd'⟩ := List.nodup_cons.mp nd
      have hxp := hx x List.mem_cons_self
      have ex : nums rules x (j + 1) = nums rules x j ++ [j] := by rw [nums_succ er, if_pos hxp]
      have hnl := nums_len (rules := rules) (i := x) (j := j)
      have F1 : ∀ i, i ≠ x → (if i ∈ x :: l then nums rules i j else nums rules i (j + 1)) = if i ∈ l then nums rules i j else nums rules i (j + 1) := by
        intro i hi
        by_cases e : i ∈ l
        · rw [if_pos e, if_pos (List.mem_cons_of_mem _ e)]
        · rw [if_neg e, if_neg (fun z => by rcases List.mem_cons.mp z with z | z; exact hi z; exact e z)]
      have Fx : (if x ∈ l then nums rules x j else nums rules x (j + 1)) = nums rules x j ++ [j] := by rw [if_neg nx, ex]
      have Fx0 : (if x ∈ x :: l then nums rules x j else nums rules x (j + 1)) = nums rules x j := if_pos List.mem_cons_self
      refine ⟨rfl, ⟨_, U.dct⟩, ok16 rfl, fun p2 hp2 => ?_⟩
      have bp2 : b p2 = none := U.stays.fresh hp2
      have np : pu ≠ p2 := fun e => by have := U.dct; rw [e, hp2] at this; cases this
      refine ⟨kvs, by rw [updM_ne np]; exact U.dct, ?_, ?_⟩
      · have h1 : ls.length ≤ 60 := by omega
        rw [List.length_cons] at hk
        omega
      rcases U.at_ x with ⟨e1, e2⟩ | ⟨q1, e1, e2, e3, e4⟩
      · rw [e1]
        have e2' : nums rules x j = [] := Fx0.symm.trans e2
        have hp2' : (updM (updM M p2 (.lst [])) pu (.dct (putD kvs (kI x) (.ref p2)))) p2 = some (.lst []) := by rw [updM_ne np.symm, updM_same]
        refine ⟨⟨_, hp2'⟩, _, hp2', by show 0 < _; omega, hK2 _ _ ⟨putD kvs (kI x) (.ref p2), _, nd', fun y hy => hx y (List.mem_cons_of_mem _ hy), ?_, ⟨?_, U.new, fun i => ?_, fun i i' q h1 h2 => ?_, ?_⟩, rfl⟩⟩
        · have := putD_len kvs (kI x) (.ref p2)
          rw [List.length_cons] at hk
          omega
        · rw [updM_ne np, updM_same]
        · rw [valD_put]
          by_cases e : i = x
          · subst e
            rw [if_pos rfl]
            refine .inr ⟨p2, rfl, bp2, np.symm, ?_⟩
            rw [updM_same, Fx, e2']; rfl
          · rw [if_neg (fun z => e (by have := Sum.inl.inj z; omega))]
            rcases U.at_ i with ⟨h1, h2⟩ | ⟨q1, h1, h2, h3, h4⟩
            · refine .inl ⟨h1, ?_⟩
              rw [← F1 i e]; exact h2
            · refine .inr ⟨q1, h1, h2, h3, ?_⟩
              have n1 : q1 ≠ p2 := fun z => by rw [z, hp2] at h4; cases h4
              rw [updM_ne n1, updM_ne h3, updM_ne n1, ← F1 i e]; exact h4
        · rw [valD_put] at h1 h2
          have ne : ∀ (y : Nat), valD kvs (kI y) = some (.ref p2) → False := fun y hy => by
            rcases U.at_ y with ⟨z1, _⟩ | ⟨q1, z1, _, _, z4⟩
            · rw [hy] at z1; cases z1
            · rw [hy] at z1; cases z1
              rw [hp2] at z4; cases z4
          by_cases c1 : kI ((i : Nat) : Int) = kI ((x : Nat) : Int)
          · rw [if_pos c1] at h1
            cases h1
            by_cases c2 : kI ((i' : Nat) : Int) = kI ((x : Nat) : Int)
            · have z1 := Sum.inl.inj c1
              have z2 := Sum.inl.inj c2
              omega
            · rw [if_neg c2] at h2
              exact (ne _ h2).elim
          · rw [if_neg c1] at h1
            by_cases c2 : kI ((i' : Nat) : Int) = kI ((x : Nat) : Int)
            · rw [if_pos c2] at h2
              cases h2
              exact (ne _ h1).elim
            · rw [if_neg c2] at h2
              exact U.inj i i' q h1 h2
        · exact ((U.stays.put bp2).put U.new).put bp2
      · rw [e1]
        have n1 : q1 ≠ p2 := fun z => by rw [z, hp2] at e4; cases e4
        have hq : (updM M p2 (.lst [])) q1 = some (.lst ((nums rules x j).map nD)) := by
          rw [updM_ne n1]
          have := e4
          rw [Fx0] at this
          exact this
        refine ⟨⟨_, hq⟩, _, hq, by rw [List.length_map]; omega, hK2 _ _ ⟨kvs, _, nd', fun y hy => hx y (List.mem_cons_of_mem _ hy), by rw [List.length_cons] at hk; omega, ⟨?_, U.new, fun i => ?_, U.inj, ?_⟩, rfl⟩⟩
        · rw [updM_ne e3.symm, updM_ne np]; exact U.dct
        · by_cases e : i = x
          · subst e
            refine .inr ⟨q1, e1, e2, e3, ?_⟩
            rw [updM_same, Fx, List.map_append]; rfl
          · rcases U.at_ i with ⟨h1, h2⟩ | ⟨q2, h1, h2, h3, h4⟩
            · refine .inl ⟨h1, ?_⟩
              rw [← F1 i e]; exact h2
            · refine .inr ⟨q2, h1, h2, h3, ?_⟩
              have n2 : q2 ≠ p2 := fun z => by rw [z, hp2] at h4; cases h4
              have n3 : q2 ≠ q1 := fun z => e (U.inj i x q1 (by rw [← z]; exact h1) e1)
              rw [updM_ne n3, updM_ne n2, ← F1 i e]; exact h4
        · exact (U.stays.put bp2).put e2
    · rw [List.map_map, List.map_map]; rfl
end DL
set_option Elab.async false
set_option linter.all false
set_option maxRecDepth 100000
set_option maxHeartbeats 4000000
namespace DL
open PySem PySem.Spec PyProof.Rows L2
/-! PLk: the least trees of all names. -/
def tre (t : Tr) : Tre := t.map fun s => (s.1, ((s.2 : Nat) : Int))
theorem treP_tre (t : Tr) : treP (tre t) = encT t := by unfold treP tre encT; rw [List.map_map]; rfl
def entOf (t : Tr) (i : Nat) : Ent := (((t.length : Nat) : Int), tre t, ((i : Nat) : Int))
theorem entOf_P (t : Tr) (i : Nat) : entP (entOf t i) = .tuple [encN t.length, encT t, encN i] := by
  show PyData.tuple [_, treP (tre t), _] = _
  rw [treP_tre]; rfl
theorem ent_le {e f : Ent} (h : entLt f e = false) : e.1 ≤ f.1 := by
  unfold entLt entP at h
  rw [W.dataLt_tuple, W.dataLt_cons (by simp [W.alike]), W.dataLt_int] at h
  simp only [PyData.eqv, beq_iff_eq] at h
  by_cases h1 : f.1 = e.1
  · omega
  · rw [if_neg h1] at h
    have := of_decide_eq_false h
    omega
/-- a tree that a name makes -/
structure TG (g : Gr) (t : Tr) (i : Nat) : Prop where
  name : i < g.n
  der : Der g i t.length
  word : ∀ s ∈ t, PyData.strOk s.1 = true
  few : t.length ≤ 341
def EsOk (g : Gr) (es : List Ent) : Prop := ∀ e ∈ es, ∃ t i, e = entOf t i ∧ TG g t i
abbrev Fd := Nat → Option Tr
structure FOk (g : Gr) (l : Nat → Nat) (F : Fd) : Prop where
  at_ : ∀ i t, F i = some t → i < g.n ∧ t.length = l i ∧ ∀ s ∈ t, PyData.strOk s.1 = true
def Due (l : Nat → Nat) (F : Fd) (es : List Ent) (r : Rl) : Prop := (∀ p ∈ r.parts, (F p).isSome = true) → (F r.res).isSome = true ∨ ∃ e ∈ es, ∃ t, e = entOf t r.res ∧ t.length ≤ 1 + (r.parts.map l).sum
theorem due_der {g : Gr} {l : Nat → Nat} {F : Fd} {es : List Ent} (il : IsLeast g l) (gk : GrOk g) (c : ∀ r ∈ g.rules, Due l F es r) : ∀ {i m : Nat}, Der g i m → F i = none → ∃ e ∈ es, ∃ t i', e = entOf t i' ∧ t.length ≤ m := by
  intro i m d
  induction d with
  | of r f hr hf ih =>
    intro hn
    by_cases e : ∀ p ∈ r.parts, (F p).isSome = true
    · rcases c r hr e with h | ⟨e, he, t, rfl, hl⟩
      · rw [hn] at h; cases h
      · refine ⟨_, he, t, _, rfl, Nat.le_trans hl ?_⟩
        have := sum_mono (l := r.parts) (f := l) (f' := f) fun p hp => il.least p _ ((gk.rf r hr).parts p hp) (hf p hp)
        omega
    · obtain ⟨p, hp, hnp⟩ : ∃ p, p ∈ r.parts ∧ F p = none := by
        apply Classical.byContradiction
        intro z
        apply e
        intro p hp
        cases q : F p with
        | none => exact (z ⟨p, hp, q⟩).elim
        | some t => rfl
      obtain ⟨e, he, t, i', e1, h1⟩ := ih p hp hnp
      have := mem_sum (f := f) hp
      exact ⟨e, he, t, i', e1, by omega⟩
/-- c parts that differ are not found -/
def Lk (F : Fd) (r : Rl) (c : Nat) : Prop := ∃ ls : List Nat, ls.Nodup ∧ (∀ p, p ∈ ls ↔ p ∈ r.parts ∧ F p = none) ∧ c = ls.length
def updF (F : Fd) (i : Nat) (t : Tr) : Fd := fun j => if j = i then some t else F j
theorem Lk.put {F : Fd} {r : Rl} {c i : Nat} {t : Tr} (h : Lk F r c) (hn : F i = none) (hp : i ∈ r.parts) : ∃ c', c = c' + 1 ∧ Lk (updF F i t) r c' := by
  obtain ⟨ls, nd, mem, rfl⟩ := h
  have hi : i ∈ ls := (mem i).mpr ⟨hp, hn⟩
  have hl := List.length_erase_of_mem hi
  have h0 := List.length_pos_of_mem hi
  refine ⟨(ls.erase i).length, by omega, ls.erase i, nd.erase i, fun p => ?_, rfl⟩
  rw [nd.mem_erase_iff, mem p]
  unfold updF
  by_cases e : p = i
  · rw [if_pos e]
    exact ⟨fun z => absurd e z.1, fun z => by cases z.2⟩
  · rw [if_neg e]
    exact ⟨fun z => z.2, fun z => ⟨e, z⟩⟩
theorem Lk.keep {F : Fd} {r : Rl} {c i : Nat} {t : Tr} (h : Lk F r c) (hp : i ∉ r.parts) : Lk (updF F i t) r c := by
  obtain ⟨ls, nd, mem, rfl⟩ := h
  refine ⟨ls, nd, fun p => ?_, rfl⟩
  rw [mem p]
  unfold updF
  by_cases e : p = i
  · rw [if_pos e]
    exact ⟨fun z => absurd (by rw [← e]; exact z.1) hp, fun z => by cases z.2⟩
  · rw [if_neg e]
theorem Lk.zero {F : Fd} {r : Rl} (h : Lk F r 0) : ∀ p ∈ r.parts, (F p).isSome = true := by
  obtain ⟨ls, nd, mem, e⟩ := h
  intro p hp
  cases q : F p with
  | some t => rfl
  | none =>
    have := List.length_pos_of_mem ((mem p).mpr ⟨hp, q⟩)
    omega
theorem Lk.pos {F : Fd} {r : Rl} {c : Nat} (h : Lk F r c) (hc : c ≠ 0) : ¬ ∀ p ∈ r.parts, (F p).isSome = true := by
  obtain ⟨ls, nd, mem, rfl⟩ := h
  intro z
  cases ls with
  | nil => exact hc rfl
  | cons p ls =>
    obtain ⟨h1, h2⟩ := (mem p).mp List.mem_cons_self
    have := z p h1
    rw [h2] at this; cases this
theorem sum_set_one {cs : List Nat} {k c : Nat} (h : cs[k]? = some (c + 1)) : (cs.set k c).sum + 1 = cs.sum := by
  induction cs generalizing k with
  | nil => rw [List.getElem?_nil] at h; cases h
  | cons x cs ih =>
    cases k with
    | zero => cases h; rw [List.set_cons_zero, List.sum_cons, List.sum_cons]; omega
    | succ k =>
      rw [List.getElem?_cons_succ] at h
      have := ih h
      rw [List.set_cons_succ, List.sum_cons, List.sum_cons]; omega
def DOk (F : Fd) (kvs : List (Key × D)) : Prop := ∀ i : Nat, valD kvs (kI i) = (F i).map fun t => .dat (encT t)
theorem DOk.put {F : Fd} {kvs : List (Key × D)} (h : DOk F kvs) (i : Nat) (t : Tr) : DOk (updF F i t) (putD kvs (kI i) (.dat (encT t))) := by
  intro j
  rw [valD_put]
  unfold updF
  by_cases e : j = i
  · subst e; rw [if_pos rfl, if_pos rfl]; rfl
  · rw [if_neg e, if_neg (fun z => e (by have := Sum.inl.inj z; omega))]
    exact h j
theorem DOk.has {F : Fd} {kvs : List (Key × D)} (h : DOk F kvs) (i : Nat) : hasD kvs (kI i) = (F i).isSome := by
  unfold hasD
  rw [h i]
  cases F i <;> rfl
/-- the users' dict, apart from av -/
structure US (g : Gr) (ukv : List (Key × D)) (pu : Addr) (av : List Addr) (M : Mp) : Prop where
  dct : M pu = some (.dct ukv)
  pua : pu ∉ av
  at_ : ∀ i : Nat, (valD ukv (kI i) = none ∧ nums g.rules i g.rules.length = []) ∨ ∃ q, valD ukv (kI i) = some (.ref q) ∧ q ∉ av ∧ M q = some (.lst ((nums g.rules i g.rules.length).map nD))
theorem US.put {g : Gr} {ukv : List (Key × D)} {pu x : Addr} {av : List Addr} {M : Mp} {o : MO} (u : US g ukv pu av M) (h : x ∈ av) : US g ukv pu av (updM M x o) := by
  refine ⟨by rw [updM_ne (fun e => u.pua (by rw [e]; exact h))]; exact u.dct, u.pua, fun i => ?_⟩
  rcases u.at_ i with z | ⟨q, h1, h2, h3⟩
  · exact .inl z
  · exact .inr ⟨q, h1, h2, by rw [updM_ne (fun e => h2 (by rw [e]; exact h))]; exact h3⟩
theorem US.new {g : Gr} {ukv : List (Key × D)} {pu x : Addr} {av : List Addr} {M : Mp} {o : MO} (u : US g ukv pu av M) (h : M x = none) : US g ukv pu (x :: av) (updM M x o) := by
  have n1 : pu ≠ x := fun e => by have := u.dct; rw [e, h] at this; cases this
  refine ⟨by rw [updM_ne n1]; exact u.dct, fun z => ?_, fun i => ?_⟩
  · rcases List.mem_cons.mp z with z | z
    · exact n1 z
    · exact u.pua z
  rcases u.at_ i with z | ⟨q, h1, h2, h3⟩
  · exact .inl z
  · have n2 : q ≠ x := fun e => by rw [e, h] at h3; cases h3
    exact .inr ⟨q, h1, fun z => by
      rcases List.mem_cons.mp z with z | z
      · exact n2 z
      · exact h2 z, by rw [updM_ne n2]; exact h3⟩
theorem US.get {g : Gr} {ukv : List (Key × D)} {pu : Addr} {av : List Addr} {M : Mp} (u : US g ukv pu av M) (i : Nat) : ∃ d, (valD ukv (kI i)).getD (.dat (.list [])) = d ∧ ∀ M', US g ukv pu av M' → seqOf M' d = some ((nums g.rules i g.rules.length).map nD) := by
  refine ⟨_, rfl, fun M' u' => ?_⟩
  rcases u'.at_ i with ⟨h1, h2⟩ | ⟨q, h1, h2, h3⟩
  · rw [h1, h2]; rfl
  · rw [h1]; exact seq_ref h3
def sp_settled_trees : MSp := fun ds M Q => ∃ (g : Gr) (l : Nat → Nat), ds = [.dat (.tuple (g.rules.map encR))] ∧ GrT g ∧ IsLeast g l ∧ ∀ pf kvs M', M' pf = some (.dct kvs) → (∀ i, i < g.n → ∃ t, valD kvs (kI i) = some (.dat (encT t)) ∧ t.length = l i ∧ ∀ s ∈ t, PyData.strOk s.1 = true) → Q (.ref pf) M'
theorem sum4 {ps : List Nat} {l : Nat → Nat} (h4 : ps.length ≤ 4) (h : ∀ p ∈ ps, l p ≤ 85) : (ps.map l).sum ≤ 340 := by
  have h1 := sum_le h
  have h2 : ps.length * 85 ≤ 4 * 85 := Nat.mul_le_mul_right _ h4
  omega
theorem due_mono {l : Nat → Nat} {F : Fd} {es es' : List Ent} {r : Rl} (h : Due l F es r) (k : ∀ e ∈ es, e ∈ es') : Due l F es' r := fun z => by
  rcases h z with h | ⟨e, he, q⟩
  · exact .inl h
  · exact .inr ⟨e, k e he, q⟩
/-- all that holds ahead of each turn -/
structure WI (g : Gr) (l : Nat → Nat) (pl pq pf pu : Addr) (ukv : List (Key × D)) (F : Fd) (cs : List Nat) (es : List Ent) (kvs : List (Key × D)) (M : Mp) : Prop where
  f : FOk g l F
  d : DOk F kvs
  cl : cs.length = g.rules.length
  eo : EsOk g es
  hp : HQ.IsHeap entLt es
  mpl : M pl = some (.lst (cs.map nD))
  mpq : M pq = some (.lst (es.map entD))
  mpf : M pf = some (.dct kvs)
  us : US g ukv pu [pf, pq, pl] M
  n1 : pl ≠ pq
  n2 : pl ≠ pf
  n3 : pq ≠ pf
theorem len_settled_trees {a b c} (h : sp_settled_trees a b c) : a.length = 1 := by
  obtain ⟨g, l, rfl, _⟩ := h; rfl
def t_settled_trees : DS :=
  dSeq (dPar3 1 2 3 (aCons (dLstM (aNil)) (aCons (dCallM sp_users_of (aCons (dVar 0) (aNil))) (aCons (dLstM (aNil)) (aNil))))) (dSeq (dFor (iSeq (dVar 0)) (dTupG 3 (gsCons (dName 4) (gsCons (dName 5) (gsCons (dName 6) (gsNil))))) (dSeq (dDrop (dMeth appendM (dVar 1) (aCons (dLenSet (dVar 6)) (aNil)))) (dIfS (dNot (dTru (dVar 6))) (dDrop (dCB pushC (aCons (dVar 3) (aCons (dTup (aCons (dC (.int 1)) (aCons (dTup (aCons (dTup (aCons (dVar 5) (aCons (dC (.int 0)) (aNil)))) (aNil))) (aCons (dVar 4) (aNil))))) (aNil))))) (dNext)))) (dSeq (dAsg (dNewDct) (dName 7)) (dSeq (dWhile (dTru (dVar 3)) (dSeq (dAsg (dCB popC (aCons (dVar 3) (aNil))) (dTupG 3 (gsCons (dName 8) (gsCons (dName 9) (gsCons (dName 10) (gsNil)))))) (dSeq (dIfS (dB (dOp inDctD (dVar 10) (dVar 7))) (dCont) (dNext)) (dSeq (dAsg (dVar 9) (dSub (dVar 7) (dVar 10) (setDct))) (dFor (iSeq (dGet2 (dVar 2) (dVar 10) (dLst (aNil)))) (dName 11) (dSeq (dAugS (dVar 1) (dVar 11) (dC (.int 1)) getL subD setL) (dSeq (dAsg (dOp ixD (dVar 0) (dVar 11)) (dTupG 3 (gsCons (dName 4) (gsCons (dName 5) (gsCons (dName 6) (gsNil)))))) (dIfS (dAnd (dB (dOp eqD (dOp ixD (dVar 1) (dVar 11)) (dC (.int 0)))) (dB (dOp ninDctD (dVar 4) (dVar 7)))) (dSeq (dAsg (dTup (aCons (dTup (aCons (dVar 5) (aCons (dCB lenC (aCons (dVar 6) (aNil))) (aNil)))) (aNil))) (dName 12)) (dSeq (dFor (iSeq (dVar 6)) (dName 13) (dAsg (dOp addD (dVar 12) (dGetDct (dVar 7) (dVar 13))) (dName 12))) (dDrop (dCB pushC (aCons (dVar 3) (aCons (dTup (aCons (dCB lenC (aCons (dVar 12) (aNil))) (aCons (dVar 12) (aCons (dVar 4) (aNil))))) (aNil))))))) (dNext))))))))) (dRet (dVar 7)))))
theorem heap_nil : HQ.IsHeap entLt ([] : List Ent) := fun i hi x y hx hy => by rw [List.getElem?_nil] at hx; cases hx
theorem law_settled_trees {a b c} (h : sp_settled_trees a b c) : t_settled_trees { nx := fun _ M' => c (.dat .none) M', rt := c } (startD ["rules", "lacking", "users", "queue", "result", "word", "parts", "found", "_", "tree", "name", "number", "row", "part"] a) b := by
  obtain ⟨g, l, rfl, gt, il, q⟩ := h
  have gk := gt.ok
  have hrl := gk.rl
  have h85 : ∀ r ∈ g.rules, ∀ p ∈ r.parts, l p ≤ 85 := fun r hr p hp => gt.le85 il ((gk.rf r hr).parts p hp)
  refine ⟨ok16 rfl, fun pl hpl => ⟨g.rules, rfl, hrl, fun r hr => by have := gt.four r hr; omega, fun pu ukv M1 U => ⟨ok16 rfl, fun pq hpq => ?_⟩⟩⟩
  have M1pl : M1 pl = some (.lst []) := U.stays pl _ updM_same
  have npl : pl ≠ pq := fun e => by rw [e, hpq] at M1pl; cases M1pl
  have us0 : US g ukv pu [pl] M1 := by
    refine ⟨U.dct, fun z => ?_, fun i => ?_⟩
    · have z' : pu = pl := List.mem_singleton.mp z
      have := U.new
      rw [z', updM_same] at this
      cases this
    · rcases U.at_ i with z | ⟨q, h1, h2, h3, h4⟩
      · exact .inl z
      · refine .inr ⟨q, h1, fun z => ?_, h4⟩
        have z' : q = pl := List.mem_singleton.mp z
        rw [z', updM_same] at h2
        cases h2
  have us1 := us0.new (o := .lst []) hpq
  have P1 : (updM M1 pq (.lst [])) pl = some (.lst []) := by rw [updM_ne npl]; exact M1pl
  have P2 : (updM M1 pq (.lst [])) pq = some (.lst []) := updM_same
  generalize updM M1 pq (.lst []) = M2 at us1 P1 P2 ⊢
  clear U M1pl hpq us0 hpl
  refine ⟨_, rfl, goFor_ind (fun r => D.dat (encR r)) (fun rest δ M => ∃ (done : List Rl) (cs : List Nat) (es : List Ent) (o4 o5 o6 : Option D), done ++ rest = g.rules ∧ cs.length = done.length ∧ (∀ (k : Nat) (r : Rl), done[k]? = some r → ∃ c, cs[k]? = some c ∧ Lk (fun _ => none) r c) ∧ EsOk g es ∧ HQ.IsHeap entLt es ∧ (∀ r ∈ done, Due l (fun _ => none) es r) ∧ es.length + cs.sum ≤ 5 * done.length ∧
    M pl = some (.lst (cs.map nD)) ∧ M pq = some (.lst (es.map entD)) ∧ US g ukv pu [pq, pl] M ∧ δ = [some (.dat (.tuple (g.rules.map encR))), some (.ref pl), some (.ref pu), some (.ref pq), o4, o5, o6, none, none, none, none, none, none, none]) ?_ ?_ g.rules (map_dat _ _) ⟨[], [], [], none, none, none, rfl, rfl, fun k r h => (by cases h), fun _ h => (by cases h), heap_nil, fun _ h => (by cases h), Nat.le_refl _, P1, P2, us1, rfl⟩⟩
  · -- the while loop
    clear us1 P1 P2
    rintro δ M ⟨done, cs, es, o4, o5, o6, hd, hcl, hlk, hes, hhp, hdue, hm, P1, P2, us1, rfl⟩
    rw [List.append_nil] at hd
    subst hd
    refine ⟨by show some _ = some _; rw [List.map_map], fun pf hpf => ?_⟩
    have n2 : pl ≠ pf := fun e => by rw [e, hpf] at P1; cases P1
    have n3 : pq ≠ pf := fun e => by rw [e, hpf] at P2; cases P2
    refine ⟨fun m δ M => ∃ (F : Fd) (cs : List Nat) (es : List Ent) (kvs : List (Key × D)) (o4 o5 o6 o8 o9 o10 o11 o12 o13 : Option D), WI g l pl pq pf pu ukv F cs es kvs M ∧ (∀ (k : Nat) (r : Rl), g.rules[k]? = some r → ∃ c, cs[k]? = some c ∧ Lk F r c) ∧ (∀ r ∈ g.rules, Due l F es r) ∧ m = es.length + cs.sum ∧ kvs.length + m ≤ 5000 ∧
      δ = [some (.dat (.tuple (g.rules.map encR))), some (.ref pl), some (.ref pu), some (.ref pq), o4, o5, o6, some (.ref pf), o8, o9, o10, o11, o12, o13], ⟨es.length + cs.sum, fun _ => none, cs, es, [], o4, o5, o6, none, none, none, none, none, none, ⟨⟨fun _ _ z => by cases z⟩, fun _ => rfl, hcl, hes, hhp, by rw [updM_ne n2]; exact P1, by rw [updM_ne n3]; exact P2, updM_same, us1.new hpf, npl, n2, n3⟩, hlk, hdue, rfl, by show 0 + _ ≤ _; omega, rfl⟩, ?_⟩
    clear P1 P2 us1 hlk hes hhp hdue hm hcl hpf
    rintro m δ M ⟨F, cs, es, kvs, o4, o5, o6, o8, o9, o10, o11, o12, o13, wi, hlk, hdue, rfl, hkm, rfl⟩
    refine ⟨_, seq_ref wi.mpq, ?_⟩
    refine if_b (fun e => ?_) fun e => ?_
    · -- a turn
      have es0 : es ≠ [] := fun z => by subst z; cases e
      clear e
      refine seq_mid (fun δ M' => ∃ (t : Tr) (i : Nat) (fs : List Ent), TG g t i ∧ fs.length + 1 = es.length ∧ (∀ x, x ∈ es ↔ x = entOf t i ∨ x ∈ fs) ∧ (∀ x ∈ es, entLt x (entOf t i) = false) ∧ HQ.IsHeap entLt fs ∧ M' = updM M pq (.lst (fs.map entD)) ∧ δ = [some (.dat (.tuple (g.rules.map encR))), some (.ref pl), some (.ref pu), some (.ref pq), o4, o5, o6, some (.ref pf), some (.dat (encN t.length)), some (.dat (encT t)), some (.dat (encN i)), o11, o12, o13]) (fun K hK => ?_) ?_
      · refine ⟨es, wi.mpq, es0, wi.hp, fun e fs hperm hmin hfs => ?_⟩
        have hmem : ∀ x, x ∈ es ↔ x = e ∨ x ∈ fs := fun x => by rw [← hperm.mem_iff, List.mem_cons]
        obtain ⟨t, i, rfl, tg⟩ := wi.eo e ((hmem e).mpr (.inl rfl))
        have hlen : fs.length + 1 = es.length := by have := hperm.length_eq; rw [List.length_cons] at this; exact this
        exact ⟨rfl, rfl, hK _ _ ⟨t, i, fs, tg, hlen, hmem, hmin, hfs, rfl, by rw [← treP_tre]; rfl⟩⟩
      rintro δ M' ⟨t, i, fs, tg, hlen, hmem, hmin, hfs, rfl, rfl⟩
      have us2 : US g ukv pu [pf, pq, pl] (updM M pq (.lst (fs.map entD))) := wi.us.put (by simp)
      have p1 : (updM M pq (.lst (fs.map entD))) pl = some (.lst (cs.map nD)) := by rw [updM_ne wi.n1]; exact wi.mpl
      have p2 : (updM M pq (.lst (fs.map entD))) pq = some (.lst (fs.map entD)) := updM_same
      have p3 : (updM M pq (.lst (fs.map entD))) pf = some (.dct kvs) := by rw [updM_ne wi.n3.symm]; exact wi.mpf
      have hfes : EsOk g fs := fun x hx => wi.eo x ((hmem x).mpr (.inr hx))
      generalize updM M pq (.lst (fs.map entD)) = M3 at us2 p1 p2 p3 ⊢
      refine ⟨kvs, p3, if_b (fun e => ?_) fun e => ?_⟩
      · -- the name is found already
        have hF : (F i).isSome = true := by rw [← wi.d.has i]; exact e
        refine ⟨fs.length + cs.sum, by omega, F, cs, fs, kvs, _, _, _, _, _, _, _, _, _, ⟨wi.f, wi.d, wi.cl, hfes, hfs, p1, p2, p3, us2, wi.n1, wi.n2, wi.n3⟩, hlk, fun r hr z => ?_, rfl, by omega, rfl⟩
        rcases hdue r hr z with h | ⟨x, hx, t', rfl, ht'⟩
        · exact .inl h
        · rcases (hmem _).mp hx with h | h
          · have hi : r.res = i := by
              have := congrArg (fun x : Ent => x.2.2) h
              have h2 : ((r.res : Nat) : Int) = ((i : Nat) : Int) := this
              omega
            rw [hi]; exact .inl hF
          · exact .inr ⟨_, h, t', rfl, ht'⟩
      · have hF : F i = none := by
          have : (F i).isSome = false := by rw [← wi.d.has i]; exact e
          cases q : F i with
          | none => rfl
          | some x => rw [q] at this; cases this
        -- the tree is least
        have hleast : t.length = l i := by
          obtain ⟨x, hx, t', i', rfl, ht'⟩ := due_der il gk hdue (il.der i tg.name) hF
          have h1 := ent_le (hmin _ hx)
          have h2 : ((t.length : Nat) : Int) ≤ ((t'.length : Nat) : Int) := h1
          have h3 := il.least i _ tg.name tg.der
          omega
        have hkl := putD_len kvs (kI i) (.dat (encT t))
        refine seq_mid (fun δ M' => M' = M3 ∧ δ = [some (.dat (.tuple (g.rules.map encR))), some (.ref pl), some (.ref pu), some (.ref pq), o4, o5, o6, some (.ref pf), some (.dat (encN t.length)), some (.dat (encT t)), some (.dat (encN i)), o11, o12, o13]) (fun K hK => hK _ _ ⟨rfl, rfl⟩) ?_
        rintro δ M' ⟨rfl, rfl⟩
        refine seq_mid (fun δ M'' => M'' = updM M' pf (.dct (putD kvs (kI i) (.dat (encT t)))) ∧ δ = [some (.dat (.tuple (g.rules.map encR))), some (.ref pl), some (.ref pu), some (.ref pq), o4, o5, o6, some (.ref pf), some (.dat (encN t.length)), some (.dat (encT t)), some (.dat (encN i)), o11, o12, o13]) (fun K hK => ⟨kvs, p3, by omega, hK _ _ ⟨rfl, rfl⟩⟩) ?_
        rintro δ M'' ⟨rfl, rfl⟩
        have us3 : US g ukv pu [pf, pq, pl] (updM M' pf (.dct (putD kvs (kI i) (.dat (encT t))))) := us2.put (by simp)
        have p1' : (updM M' pf (.dct (putD kvs (kI i) (.dat (encT t))))) pl = some (.lst (cs.map nD)) := by rw [updM_ne wi.n2]; exact p1
        have p2' : (updM M' pf (.dct (putD kvs (kI i) (.dat (encT t))))) pq = some (.lst (fs.map entD)) := by rw [updM_ne wi.n3]; exact p2
        have p3' : (updM M' pf (.dct (putD kvs (kI i) (.dat (encT t))))) pf = some (.dct (putD kvs (kI i) (.dat (encT t)))) := updM_same
        have d' := wi.d.put i t
        generalize updM M' pf (.dct (putD kvs (kI i) (.dat (encT t)))) = M5 at us3 p1' p2' p3' ⊢
        generalize putD kvs (kI i) (.dat (encT t)) = kv2 at p3' d' hkl
        obtain ⟨du, hdu, hseq⟩ := us3.get i
        have hF' : ∀ p, (updF F i t p).isSome = true → p ≠ i → (F p).isSome = true := fun p hp hn => by
          unfold updF at hp; rw [if_neg hn] at hp; exact hp
        have hFi : (updF F i t i).isSome = true := by unfold updF; rw [if_pos rfl]; rfl
        have hFm : ∀ p, (F p).isSome = true → (updF F i t p).isSome = true := fun p hp => by
          unfold updF
          by_cases e : p = i
          · rw [if_pos e]; rfl
          · rw [if_neg e]; exact hp
        have fok : FOk g l (updF F i t) := ⟨fun j u hj => by
          unfold updF at hj
          by_cases e : j = i
          · rw [if_pos e] at hj; cases hj
            rw [e]; exact ⟨tg.name, hleast, tg.word⟩
          · rw [if_neg e] at hj; exact wi.f.at_ j u hj⟩
        have due1 : ∀ r ∈ g.rules, i ∉ r.parts → Due l (updF F i t) fs r := fun r hr hi z => by
          rcases hdue r hr (fun p hp => hF' p (z p hp) (fun e => hi (by rw [← e]; exact hp))) with h | ⟨x, hx, t', rfl, ht'⟩
          · exact .inl (hFm _ h)
          · rcases (hmem _).mp hx with h | h
            · have hri : r.res = i := by
                have := congrArg (fun x : Ent => x.2.2) h
                have h2 : ((r.res : Nat) : Int) = ((i : Nat) : Int) := this
                omega
              rw [hri]; exact .inl hFi
            · exact .inr ⟨_, h, t', rfl, ht'⟩
        refine ⟨⟨ukv, us3.dct⟩, ok16 rfl, ukv, us3.dct, ?_⟩
        refine ⟨(nums g.rules i g.rules.length).map nD, ?_, ?_⟩
        · rw [← hdu] at hseq
          exact hseq M5 us3
        refine goFor_ind nD (fun ks δ M => ∃ (cs2 : List Nat) (es2 : List Ent) (o4 o5 o6 o11 o12 o13 : Option D), WI g l pl pq pf pu ukv (updF F i t) cs2 es2 kv2 M ∧ ks.Nodup ∧ (∀ k ∈ ks, k ∈ nums g.rules i g.rules.length) ∧ (∀ (k : Nat) (r : Rl), g.rules[k]? = some r → ∃ c, cs2[k]? = some c ∧ (if k ∈ ks then Lk F r c else Lk (updF F i t) r c)) ∧ (∀ (k : Nat) (r : Rl), g.rules[k]? = some r → k ∉ ks → Due l (updF F i t) es2 r) ∧ es2.length + cs2.sum ≤ fs.length + cs.sum ∧
          δ = [some (.dat (.tuple (g.rules.map encR))), some (.ref pl), some (.ref pu), some (.ref pq), o4, o5, o6, some (.ref pf), some (.dat (encN t.length)), some (.dat (encT t)), some (.dat (encN i)), o11, o12, o13]) ?_ ?_ (nums g.rules i g.rules.length) rfl ⟨cs, fs, o4, o5, o6, o11, o12, o13, ⟨fok, d', wi.cl, hfes, hfs, p1', p2', p3', us3, wi.n1, wi.n2, wi.n3⟩, nums_nodup, fun _ h => h, fun k r hk => ?_, fun k r hk hn => due1 r (List.mem_of_getElem? hk) fun z => hn (nums_mem.mpr ⟨(List.getElem?_eq_some_iff.mp hk).1, r, hk, z⟩), Nat.le_refl _, rfl⟩
        · -- all users are told
          clear p1' p2' p3' us3
          rintro δ M6 ⟨cs2, es2, o4, o5, o6, o11, o12, o13, wi2, _, _, hlk2, hdue2, hm2, rfl⟩
          refine ⟨?_, es2.length + cs2.sum, by omega, updF F i t, cs2, es2, kv2, _, _, _, _, _, _, _, _, _, wi2, fun k r hk => ?_, fun r hr => ?_, rfl, by omega, rfl⟩
          · rw [← hdu] at hseq
            exact hseq M6 wi2.us
          · obtain ⟨c, h1, h2⟩ := hlk2 k r hk
            rw [if_neg List.not_mem_nil] at h2
            exact ⟨c, h1, h2⟩
          · obtain ⟨k, hk⟩ := List.getElem?_of_mem hr
            exact hdue2 k r hk List.not_mem_nil
        · -- a user is told
          clear p1' p2' p3' us3
          rintro k ks δ M6 K ⟨cs2, es2, o4, o5, o6, o11, o12, o13, wi2, hnd, hks, hlk2, hdue2, hm2, rfl⟩ hK
          obtain ⟨hnk, hnd'⟩ := List.nodup_cons.mp hnd
          obtain ⟨hkl, r, er, hir⟩ := nums_mem.mp (hks k List.mem_cons_self)
          have hr := List.mem_of_getElem? er
          have rf := gk.rf r hr
          have hp4 := gt.four r hr
          obtain ⟨c, hc, hLk⟩ := hlk2 k r er
          rw [if_pos List.mem_cons_self] at hLk
          obtain ⟨c', rfl, hLk'⟩ := hLk.put (t := t) hF hir
          have hsum := sum_set_one hc
          have ez : D.dat (PyData.int (((c' + 1 : Nat) : Int) - 1)) = nD c' := by
            show D.dat (PyData.int _) = D.dat (PyData.int _)
            congr 2; omega
          refine ⟨?_, ?_⟩
          · rw [← hdu] at hseq
            exact hseq M6 wi2.us
          refine seq_mid (fun δ M' => M' = updM M6 pl (.lst ((cs2.set k c').map nD)) ∧ δ = [some (.dat (.tuple (g.rules.map encR))), some (.ref pl), some (.ref pu), some (.ref pq), o4, o5, o6, some (.ref pf), some (.dat (encN t.length)), some (.dat (encT t)), some (.dat (encN i)), some (nD k), o12, o13]) (fun K hK => ?_) ?_
          · refine ⟨_, k, nD (c' + 1), wi2.mpl, rfl, by rw [List.getElem?_map, hc]; rfl, _, k, wi2.mpl, ixN_nat (by rw [List.length_map, wi2.cl]; exact hkl), hK _ _ ⟨?_, rfl⟩⟩
            rw [List.map_set, ← ez]
          rintro δ M' ⟨rfl, rfl⟩
          have u1 : US g ukv pu [pf, pq, pl] (updM M6 pl (.lst ((cs2.set k c').map nD))) := wi2.us.put (by simp)
          have r1 : (updM M6 pl (.lst ((cs2.set k c').map nD))) pl = some (.lst ((cs2.set k c').map nD)) := updM_same
          have r2 : (updM M6 pl (.lst ((cs2.set k c').map nD))) pq = some (.lst (es2.map entD)) := by rw [updM_ne wi2.n1.symm]; exact wi2.mpq
          have r3 : (updM M6 pl (.lst ((cs2.set k c').map nD))) pf = some (.dct kv2) := by rw [updM_ne wi2.n2.symm]; exact wi2.mpf
          generalize updM M6 pl (.lst ((cs2.set k c').map nD)) = M7 at u1 r1 r2 r3 ⊢
          have wi3 : WI g l pl pq pf pu ukv (updF F i t) (cs2.set k c') es2 kv2 M7 := ⟨fok, d', by rw [List.length_set]; exact wi2.cl, wi2.eo, wi2.hp, r1, r2, r3, u1, wi2.n1, wi2.n2, wi2.n3⟩
          have hck : (cs2.set k c')[k]? = some c' := List.getElem?_set_self (by rw [wi2.cl]; exact hkl)
          have hlk3 : ∀ (k2 : Nat) (r : Rl), g.rules[k2]? = some r → ∃ c, (cs2.set k c')[k2]? = some c ∧ (if k2 ∈ ks then Lk F r c else Lk (updF F i t) r c) := by
            intro k2 r2 hk2
            by_cases e : k2 = k
            · subst e
              rw [er] at hk2; cases hk2
              exact ⟨c', hck, by rw [if_neg hnk]; exact hLk'⟩
            · obtain ⟨c2, h1, h2⟩ := hlk2 k2 r2 hk2
              refine ⟨c2, by rw [List.getElem?_set_ne (fun z => e z.symm)]; exact h1, ?_⟩
              by_cases e2 : k2 ∈ ks
              · rw [if_pos e2]; rw [if_pos (List.mem_cons_of_mem _ e2)] at h2; exact h2
              · rw [if_neg e2]; rw [if_neg (fun z => by rcases List.mem_cons.mp z with z | z; exact e z; exact e2 z)] at h2; exact h2
          have hdue3 : ∀ (k2 : Nat) (r2 : Rl), g.rules[k2]? = some r2 → k2 ≠ k → k2 ∉ ks → Due l (updF F i t) es2 r2 := fun k2 r2 hk2 h1 h2 => hdue2 k2 r2 hk2 fun z => by
            rcases List.mem_cons.mp z with z | z
            · exact h1 z
            · exact h2 z
          have hks' : ∀ k ∈ ks, k ∈ nums g.rules i g.rules.length := fun x hx => hks x (List.mem_cons_of_mem _ hx)
          refine ⟨_, _, rfl, atI_map er, rfl, rfl, ?_⟩
          -- nothing is pushed
          have skip : ∀ o12 o13, Due l (updF F i t) es2 r → K [some (.dat (.tuple (g.rules.map encR))), some (.ref pl), some (.ref pu), some (.ref pq), some (.dat (encN r.res)), some (.dat (.str r.word)), some (.dat (encL r.parts)), some (.ref pf), some (.dat (encN t.length)), some (.dat (encT t)), some (.dat (encN i)), some (nD k), o12, o13] M7 := fun o12 o13 h => hK _ _ ⟨cs2.set k c', es2, _, _, _, _, _, _, wi3, hnd', hks', hlk3, fun k2 r2 hk2 hn => by
            by_cases e : k2 = k
            · subst e
              rw [er] at hk2; cases hk2
              exact h
            · exact hdue3 k2 r2 hk2 e hn, by omega, rfl⟩
          refine ⟨_, _, seq_ref r1, atI_mapD hck, if_b (fun e => ?_) fun e => ?_⟩
          · have hc0 : c' = 0 := by have := of_decide_eq_true e; omega
            rw [hc0] at hLk'
            have hall := hLk'.zero
            refine ⟨kv2, r3, if_b (fun e => ?_) fun e => ?_⟩
            · have hlp : ((r.parts.map encN).map D.dat).length = r.parts.length := by rw [List.length_map, List.length_map]
              have h340 := sum4 hp4 (h85 r hr)
              refine seq_mid (fun δ M' => M' = M7 ∧ δ = [some (.dat (.tuple (g.rules.map encR))), some (.ref pl), some (.ref pu), some (.ref pq), some (.dat (encN r.res)), some (.dat (.str r.word)), some (.dat (encL r.parts)), some (.ref pf), some (.dat (encN t.length)), some (.dat (encT t)), some (.dat (encN i)), some (nD k), some (.dat (encT [r.sym])), o13]) (fun K hK => ?_) ?_
              · refine ⟨_, rfl, ?_⟩
                rw [hlp]
                exact ⟨ok16 rfl, ok16 rfl, hK _ _ ⟨rfl, rfl⟩⟩
              rintro δ M' ⟨rfl, rfl⟩
              refine ⟨_, rfl, goFor_ind nD (fun rest δ M => M = M' ∧ ∃ (row : Tr) (o13 : Option D), row.length + (rest.map l).sum = 1 + (r.parts.map l).sum ∧ (∀ s ∈ row, PyData.strOk s.1 = true) ∧ (∀ p ∈ rest, p ∈ r.parts) ∧ δ = [some (.dat (.tuple (g.rules.map encR))), some (.ref pl), some (.ref pu), some (.ref pq), some (.dat (encN r.res)), some (.dat (.str r.word)), some (.dat (encL r.parts)), some (.ref pf), some (.dat (encN t.length)), some (.dat (encT t)), some (.dat (encN i)), some (nD k), some (.dat (encT row)), o13]) ?_ ?_ r.parts (map_dat _ _) ⟨rfl, [r.sym], o13, rfl, fun s hs => by
                rcases List.mem_singleton.mp hs with rfl
                exact rf.word, fun _ h => h, rfl⟩⟩
              · rintro δ M ⟨rfl, row, o13, hrow, hrw, _, rfl⟩
                have hrl : row.length = 1 + (r.parts.map l).sum := hrow
                have el : ((row.map encS).map D.dat).length = row.length := by rw [List.length_map, List.length_map]
                refine ⟨by show some _ = some _; rw [List.map_map], _, rfl, ?_⟩
                rw [el]
                refine ⟨ok16 rfl, es2, entOf row r.res, r2, (entOf_P row r.res).symm, by omega, wi2.hp, fun fs2 hperm2 hfs2 => ?_⟩
                have hmem2 : ∀ x, x ∈ fs2 ↔ x ∈ es2 ∨ x = entOf row r.res := fun x => by rw [hperm2.mem_iff, List.mem_append, List.mem_singleton]
                have htg : TG g row r.res := ⟨rf.res, by rw [hrl]; exact Der.of r l hr fun p hp => il.der p (rf.parts p hp), hrw, by omega⟩
                refine hK _ _ ⟨cs2.set k c', fs2, _, _, _, _, _, _, ⟨fok, d', wi3.cl, fun x hx => ?_, hfs2, ?_, updM_same, ?_, u1.put (by simp), wi2.n1, wi2.n2, wi2.n3⟩, hnd', hks', hlk3, fun k2 r2 hk2 hn => ?_, ?_, rfl⟩
                · rcases (hmem2 x).mp hx with h | rfl
                  · exact wi2.eo x h
                  · exact ⟨_, _, rfl, htg⟩
                · rw [updM_ne wi2.n1]; exact r1
                · rw [updM_ne wi2.n3.symm]; exact r3
                · by_cases e : k2 = k
                  · subst e
                    rw [er] at hk2; cases hk2
                    exact fun _ => .inr ⟨_, (hmem2 _).mpr (.inr rfl), row, rfl, by omega⟩
                  · exact due_mono (hdue3 k2 r2 hk2 e hn) fun x hx => (hmem2 x).mpr (.inl hx)
                · have := hperm2.length_eq
                  rw [List.length_append, List.length_singleton] at this
                  omega
              · rintro p rest δ M K2 ⟨rfl, row, o13, hrow, hrw, hsub, rfl⟩ hK2
                have hp := hsub p List.mem_cons_self
                obtain ⟨u, hu⟩ := Option.isSome_iff_exists.mp (hall p hp)
                obtain ⟨_, hul, huw⟩ := fok.at_ p u hu
                rw [List.map_cons, List.sum_cons] at hrow
                have ea : encT (row ++ u) = .tuple (row.map encS ++ u.map encS) := by unfold encT; rw [List.map_append]
                refine ⟨by show some _ = some _; rw [List.map_map], kv2, .dat (encT u), r3, by rw [d' p, hu]; rfl, by rw [List.length_map, List.length_map]; omega, hK2 _ _ ⟨rfl, row ++ u, _, by rw [List.length_append]; omega, fun s hs => ?_, fun x hx => hsub x (List.mem_cons_of_mem _ hx), by rw [ea]; rfl⟩⟩
                rcases List.mem_append.mp hs with h | h
                · exact hrw s h
                · exact huw s h
            · have hh : (updF F i t r.res).isSome = true := by
                rw [← d'.has r.res]
                exact Bool.not_eq_false' _ |>.mp e
              exact skip _ _ fun _ => .inl hh
          · have hc0 : c' ≠ 0 := fun z => by
              have := of_decide_eq_false e
              rw [z] at this
              exact this rfl
            exact skip _ _ fun z => (hLk'.pos hc0 z).elim
        · obtain ⟨c, h1, h2⟩ := hlk k r hk
          refine ⟨c, h1, ?_⟩
          by_cases e : k ∈ nums g.rules i g.rules.length
          · rw [if_pos e]; exact h2
          · rw [if_neg e]
            exact h2.keep fun z => e (nums_mem.mpr ⟨(List.getElem?_eq_some_iff.mp hk).1, r, hk, z⟩)
    · -- the end
      have es0 : es = [] := by
        cases es with
        | nil => rfl
        | cons x es => cases e
      subst es0
      refine q pf kvs M wi.mpf fun i hi => ?_
      cases hF : F i with
      | none =>
        obtain ⟨x, hx, _⟩ := due_der il gk hdue (il.der i hi) hF
        cases hx
      | some t =>
        obtain ⟨_, h2, h3⟩ := wi.f.at_ i t hF
        exact ⟨t, by rw [wi.d i, hF]; rfl, h2, h3⟩
  · -- a rule is read
    clear us1 P1 P2
    rintro r rest δ M K ⟨done, cs, es, o4, o5, o6, hd, hcl, hlk, hes, hhp, hdue, hm, P1, P2, us1, rfl⟩ hK
    have hr : r ∈ g.rules := by rw [← hd]; simp
    have rf := gk.rf r hr
    have hp4 := gt.four r hr
    have hdl : done.length ≤ 1000 := by
      have := congrArg List.length hd
      rw [List.length_append] at this
      omega
    refine ⟨by show some _ = some _; rw [List.map_map], rfl, rfl, ?_⟩
    refine ⟨⟨_, P1⟩, _, encL_ints _, by rw [List.length_map]; omega, fun ls0 hl0 => ?_⟩
    have hll := once_len hl0
    rw [List.length_map] at hll
    obtain ⟨ls, rfl, nd, mem⟩ := once_nat hl0
    rw [List.length_map] at hll
    have hLk : Lk (fun _ => none) r ls.length := ⟨ls, nd, fun p => by rw [mem p]; exact ⟨fun z => ⟨z, rfl⟩, fun z => z.1⟩, rfl⟩
    refine ⟨_, P1, by rw [List.length_map]; omega, ?_⟩
    have es1 : updM M pl (.lst (cs.map nD ++ [.dat (.int ((ls.map fun p => ((p : Nat) : Int)).length : Nat))])) = updM M pl (.lst ((cs ++ [ls.length]).map nD)) := by
      rw [List.length_map, List.map_append]; rfl
    rw [es1]
    have u2 : US g ukv pu [pq, pl] (updM M pl (.lst ((cs ++ [ls.length]).map nD))) := us1.put (by simp)
    have P1' : (updM M pl (.lst ((cs ++ [ls.length]).map nD))) pl = some (.lst ((cs ++ [ls.length]).map nD)) := updM_same
    have P2' : (updM M pl (.lst ((cs ++ [ls.length]).map nD))) pq = some (.lst (es.map entD)) := by rw [updM_ne npl.symm]; exact P2
    generalize updM M pl (.lst ((cs ++ [ls.length]).map nD)) = M4 at u2 P1' P2' ⊢
    have hlk' : ∀ (k : Nat) (r' : Rl), (done ++ [r])[k]? = some r' → ∃ c, (cs ++ [ls.length])[k]? = some c ∧ Lk (fun _ => none) r' c := by
      intro k r' hk
      rcases Nat.lt_or_ge k done.length with h | h
      · rw [List.getElem?_append_left h] at hk
        rw [List.getElem?_append_left (by omega)]
        exact hlk k r' hk
      · rw [List.getElem?_append_right h] at hk
        rw [List.getElem?_append_right (by omega)]
        have hk0 : k - done.length = 0 := by
          rcases Nat.eq_zero_or_pos (k - done.length) with z | z
          · exact z
          · rw [List.getElem?_eq_none (by show 1 ≤ _; omega)] at hk; cases hk
        rw [hk0] at hk
        cases hk
        rw [show k - cs.length = 0 by omega]
        exact ⟨_, rfl, hLk⟩
    have hd' : (done ++ [r]) ++ rest = g.rules := by rw [List.append_assoc]; exact hd
    have hcl' : (cs ++ [ls.length]).length = (done ++ [r]).length := by rw [List.length_append, List.length_append, hcl]; rfl
    have hsum : (cs ++ [ls.length]).sum = cs.sum + ls.length := by rw [List.sum_append]; simp
    refine ⟨_, rfl, if_b (fun e => ?_) fun e => ?_⟩
    · have hp0 : r.parts = [] := by
        cases hp : r.parts with
        | nil => rfl
        | cons p ps => rw [hp] at e; cases e
      have hls0 : ls = [] := by
        cases ls with
        | nil => rfl
        | cons x ls => have := (mem x).mp List.mem_cons_self; rw [hp0] at this; cases this
      have htg : TG g [(r.word, 0)] r.res := ⟨rf.res, by
        have := Der.of (g := g) r (fun _ => 0) hr (fun p hp => by rw [hp0] at hp; cases hp)
        rw [hp0] at this
        exact this, fun s hs => by
        rcases List.mem_singleton.mp hs with rfl
        exact rf.word, by show 1 ≤ 341; omega⟩
      refine ⟨ok16 rfl, ok16 rfl, ok16 rfl, es, entOf [(r.word, 0)] r.res, P2', (entOf_P [(r.word, 0)] r.res).symm, by omega, hhp, fun fs hperm hfs => ?_⟩
      have hmem : ∀ x, x ∈ fs ↔ x ∈ es ∨ x = entOf [(r.word, 0)] r.res := fun x => by rw [hperm.mem_iff, List.mem_append, List.mem_singleton]
      refine hK _ _ ⟨done ++ [r], cs ++ [ls.length], fs, _, _, _, hd', hcl', hlk', fun x hx => ?_, hfs, fun r' hr' => ?_, ?_, ?_, updM_same, u2.put (by simp), rfl⟩
      · rcases (hmem x).mp hx with h | rfl
        · exact hes x h
        · exact ⟨_, _, rfl, htg⟩
      · rcases List.mem_append.mp hr' with h | h
        · exact due_mono (hdue r' h) fun x hx => (hmem x).mpr (.inl hx)
        · rcases List.mem_singleton.mp h with rfl
          exact fun _ => .inr ⟨_, (hmem _).mpr (.inr rfl), _, rfl, by show 1 ≤ _; omega⟩
      · have := hperm.length_eq
        rw [List.length_append, List.length_singleton] at this
        rw [hsum, hls0, List.length_append, List.length_singleton, List.length_nil]
        omega
      · rw [updM_ne npl]; exact P1'
    · have hp0 : r.parts ≠ [] := fun z => by rw [z] at e; cases e
      refine hK _ _ ⟨done ++ [r], cs ++ [ls.length], es, _, _, _, hd', hcl', hlk', hes, hhp, fun r' hr' => ?_, ?_, P1', P2', u2, rfl⟩
      · rcases List.mem_append.mp hr' with h | h
        · exact hdue r' h
        · rcases List.mem_singleton.mp h with rfl
          intro z
          cases hp : r'.parts with
          | nil => exact (hp0 hp).elim
          | cons p ps => have := z p (by rw [hp]; exact List.mem_cons_self); cases this
      · rw [hsum, List.length_append, List.length_singleton]
        omega
end DL
set_option Elab.async false
set_option linter.all false
set_option maxRecDepth 100000
set_option maxHeartbeats 4000000
namespace DL
open PySem PySem.Spec PyProof.Rows L2
/-! PM4: the true sheet keeps the rules, and what it tells. -/
theorem pLt_no {p q : PI} : pLt p q = false ↔ ¬ (p.1 < q.1 ∨ (p.1 = q.1 ∧ p.2 < q.2)) := by unfold pLt; exact decide_eq_false_iff_not
theorem pLe_tr {p q r : PI} (h1 : pLt q p = false) (h2 : pLt r q = false) : pLt r p = false := by rw [pLt_no] at *; omega
theorem min2_or (p q : PI) : min2 p q = p ∨ min2 p q = q := by
  unfold min2
  split
  · exact .inr rfl
  · exact .inl rfl
theorem min2_l (p q : PI) : pLt p (min2 p q) = false := by
  unfold min2
  split
  · rename_i h; exact pLt_asy h
  · exact pLt_irr _
theorem min2_r (p q : PI) : pLt q (min2 p q) = false := by
  unfold min2
  split
  · exact pLt_irr _
  · rename_i h
    cases e : pLt q p with
    | true => exact absurd e h
    | false => rfl
theorem min2_assoc (p q r : PI) : min2 (min2 p q) r = min2 p (min2 q r) := by
  have a1 : pLt p (min2 (min2 p q) r) = false := pLe_tr (min2_l _ _) (min2_l _ _)
  have a2 : pLt q (min2 (min2 p q) r) = false := pLe_tr (min2_l _ _) (min2_r _ _)
  have a3 : pLt r (min2 (min2 p q) r) = false := min2_r _ _
  have b1 : pLt p (min2 p (min2 q r)) = false := min2_l _ _
  have b2 : pLt q (min2 p (min2 q r)) = false := pLe_tr (min2_r _ _) (min2_l _ _)
  have b3 : pLt r (min2 p (min2 q r)) = false := pLe_tr (min2_r _ _) (min2_r _ _)
  refine pLt_eq ?_ ?_
  · rcases min2_or (min2 p q) r with e | e
    · rw [e]
      rcases min2_or p q with e | e
      · rw [e]; exact b1
      · rw [e]; exact b2
    · rw [e]; exact b3
  · rcases min2_or p (min2 q r) with e | e
    · rw [e]; exact a1
    · rw [e]
      rcases min2_or q r with e | e
      · rw [e]; exact a2
      · rw [e]; exact a3
theorem at2_set {row : Row} {i j : Nat} {x : PI} (h : i < row.length) : at2 (row.set i x) j = if j = i then x else at2 row j := by
  unfold at2
  rw [List.getD_eq_getElem?_getD, List.getD_eq_getElem?_getD, List.getElem?_set]
  by_cases e : i = j
  · subst e; rw [if_pos rfl, if_pos h, if_pos rfl]; rfl
  · rw [if_neg e, if_neg (fun z => e z.symm)]
theorem row2_set {h : List Row} {i j : Nat} {x : Row} (hl : i < h.length) : row2 (h.set i x) j = if j = i then x else row2 h j := by
  unfold row2
  rw [List.getD_eq_getElem?_getD, List.getD_eq_getElem?_getD, List.getElem?_set]
  by_cases e : i = j
  · subst e; rw [if_pos rfl, if_pos hl, if_pos rfl]; rfl
  · rw [if_neg e, if_neg (fun z => e z.symm)]
/-- a rule is heard at a row -/
def rowStep (b : Rl → PI) (row : Row) (r : Rl) : Row := row.set r.res (min2 (at2 row r.res) (b r))
theorem rowF_len (b : Rl → PI) : ∀ (rs : List Rl) (row : Row), (rs.foldl (rowStep b) row).length = row.length
  | [], _ => rfl
  | r :: rs, row => by
    rw [List.foldl_cons, rowF_len b rs]
    exact List.length_set
theorem rowStep_at {b : Rl → PI} {row : Row} {r : Rl} {i : Nat} (h : r.res < row.length) : at2 (rowStep b row r) i = if i = r.res then min2 (at2 row i) (b r) else at2 row i := by
  unfold rowStep
  rw [at2_set h]
  by_cases e : i = r.res
  · rw [if_pos e, if_pos e, e]
  · rw [if_neg e, if_neg e]
theorem rowF_le {b : Rl → PI} {n : Nat} : ∀ {rs : List Rl} {row : Row} (i : Nat), row.length = n → (∀ r ∈ rs, r.res < n) → pLt (at2 row i) (at2 (rs.foldl (rowStep b) row) i) = false
  | [], _, _, _, _ => pLt_irr _
  | r :: rs, row, i, hl, hr => by
    have h0 : r.res < row.length := by rw [hl]; exact hr r List.mem_cons_self
    rw [List.foldl_cons]
    have ih := rowF_le (b := b) (rs := rs) (row := rowStep b row r) i (by unfold rowStep; rw [List.length_set]; exact hl) fun x hx => hr x (List.mem_cons_of_mem _ hx)
    refine pLe_tr ih ?_
    rw [rowStep_at h0]
    by_cases e : i = r.res
    · rw [if_pos e]; exact min2_l _ _
    · rw [if_neg e]; exact pLt_irr _
theorem rowF_rule {b : Rl → PI} {n : Nat} : ∀ {rs : List Rl} {row : Row} {r : Rl}, row.length = n → (∀ r ∈ rs, r.res < n) → r ∈ rs → pLt (b r) (at2 (rs.foldl (rowStep b) row) r.res) = false
  | x :: rs, row, r, hl, hr, hm => by
    have h0 : x.res < row.length := by rw [hl]; exact hr x List.mem_cons_self
    have hl' : (rowStep b row x).length = n := by unfold rowStep; rw [List.length_set]; exact hl
    have hr' : ∀ r ∈ rs, r.res < n := fun y hy => hr y (List.mem_cons_of_mem _ hy)
    rw [List.foldl_cons]
    rcases List.mem_cons.mp hm with rfl | hm
    · refine pLe_tr (rowF_le (b := b) (rs := rs) r.res hl' hr') ?_
      rw [rowStep_at h0, if_pos rfl]
      exact min2_r _ _
    · exact rowF_rule hl' hr' hm
theorem rowF_from {b : Rl → PI} {n : Nat} : ∀ {rs : List Rl} {row : Row} {i : Nat}, row.length = n → (∀ r ∈ rs, r.res < n) → at2 (rs.foldl (rowStep b) row) i = at2 row i ∨ ∃ r ∈ rs, r.res = i ∧ at2 (rs.foldl (rowStep b) row) i = b r
  | [], _, _, _, _ => .inl rfl
  | x :: rs, row, i, hl, hr => by
    have h0 : x.res < row.length := by rw [hl]; exact hr x List.mem_cons_self
    have hl' : (rowStep b row x).length = n := by unfold rowStep; rw [List.length_set]; exact hl
    have hr' : ∀ r ∈ rs, r.res < n := fun y hy => hr y (List.mem_cons_of_mem _ hy)
    rw [List.foldl_cons]
    rcases rowF_from (b := b) (rs := rs) (row := rowStep b row x) (i := i) hl' hr' with h | ⟨r, h1, h2, h3⟩
    · rw [h, rowStep_at h0]
      by_cases e : i = x.res
      · rw [if_pos e]
        rcases min2_or (at2 row i) (b x) with z | z
        · exact .inl z
        · exact .inr ⟨x, List.mem_cons_self, e.symm, z⟩
      · rw [if_neg e]; exact .inl rfl
    · exact .inr ⟨r, List.mem_cons_of_mem _ h1, h2, h3⟩
/-- the same from none and from the top -/
def fromTop (o : Option PI) : PI := match o with
  | none => topP
  | some k => min2 topP k
theorem rowF_best {s : Sym} {size : Int} {z : Row} {lower : List Row} {n : Nat} : ∀ {rs : List Rl} {row : Row} {acc : List (Option PI)}, row.length = n → acc.length = n → (∀ r ∈ rs, r.res < n) → (∀ i, at2 row i = fromTop ((acc[i]?).getD none) ∨ n ≤ i) →
    (rs.foldl (bStep s size z lower) acc).length = n ∧ ∀ i, at2 (rs.foldl (rowStep (boundW s size z lower)) row) i = fromTop (((rs.foldl (bStep s size z lower) acc)[i]?).getD none) ∨ n ≤ i
  | [], _, _, _, ha, _, h => ⟨ha, h⟩
  | r :: rs, row, acc, hl, ha, hr, h => by
    have h0 : r.res < n := hr r List.mem_cons_self
    rw [List.foldl_cons, List.foldl_cons]
    refine rowF_best (by unfold rowStep; rw [List.length_set]; exact hl) (by unfold bStep; rw [List.length_set]; exact ha) (fun x hx => hr x (List.mem_cons_of_mem _ hx)) fun i => ?_
    rcases h i with e | e
    · refine .inl ?_
      rw [rowStep_at (by rw [hl]; exact h0)]
      unfold bStep
      rw [List.getElem?_set]
      by_cases ei : i = r.res
      · subst ei
        rw [if_pos rfl, if_pos rfl, if_pos (by rw [ha]; exact h0), e]
        show _ = min2 topP (minO _ _)
        cases (acc[r.res]?).getD none with
        | none => rfl
        | some k => exact min2_assoc _ _ _
      · rw [if_neg ei, if_neg (fun z => ei z.symm)]; exact e
    · exact .inr e
theorem best_some {s : Sym} {size : Int} {z : Row} {lower : List Row} {n : Nat} : ∀ {rs : List Rl} {acc : List (Option PI)} {i : Nat}, acc.length = n → (∀ r ∈ rs, r.res < n) → (((acc[i]?).getD none).isSome = true ∨ ∃ r ∈ rs, r.res = i) → (((rs.foldl (bStep s size z lower) acc)[i]?).getD none).isSome = true
  | [], _, _, _, _, h => by
    rcases h with h | ⟨r, hr, _⟩
    · exact h
    · cases hr
  | x :: rs, acc, i, ha, hr, h => by
    have h0 : x.res < n := hr x List.mem_cons_self
    rw [List.foldl_cons]
    refine best_some (by unfold bStep; rw [List.length_set]; exact ha) (fun x hx => hr x (List.mem_cons_of_mem _ hx)) ?_
    unfold bStep
    rw [List.getElem?_set]
    by_cases e : x.res = i
    · rw [if_pos e, if_pos (by rw [ha]; exact h0)]; exact .inl rfl
    · rw [if_neg e]
      rcases h with h | ⟨r, hm, hri⟩
      · exact .inl h
      · rcases List.mem_cons.mp hm with rfl | hm
        · exact absurd hri e
        · exact .inr ⟨r, hm, hri⟩
theorem boundT_congr {t : Tr} {z : Row} {h h' : List Row} {k : Nat} (e : ∀ c ∈ BN t k, row2 h c = row2 h' c) : boundT t z h k = boundT t z h' k := by
  funext r
  unfold boundT
  rw [List.map_congr_left e]
theorem hNode_eq {t : Tr} {z : Row} {k : Nat} : ∀ {rs : List Rl} {h : List Row}, k < h.length → rs.foldl (hStep t z k) h = h.set k (rs.foldl (rowStep (boundT t z h k)) (row2 h k))
  | [], h, hk => by
    show h = h.set k (row2 h k)
    apply List.ext_getElem?
    intro j
    rw [List.getElem?_set]
    by_cases e : k = j
    · subst e; rw [if_pos rfl, if_pos hk, row2_get hk]
    · rw [if_neg e]
  | r :: rs, h, hk => by
    rw [List.foldl_cons, List.foldl_cons]
    have e1 : hStep t z k h r = h.set k (rowStep (boundT t z h k) (row2 h k) r) := rfl
    have e2 : boundT t z (h.set k (rowStep (boundT t z h k) (row2 h k) r)) k = boundT t z h k := boundT_congr fun c hc => by
      rw [row2_set hk, if_neg (by have := (BN_mem hc).1; omega)]
    rw [e1, hNode_eq (by rw [List.length_set]; exact hk), e2, row2_set hk, if_pos rfl, List.set_set]
abbrev tops (n : Nat) : Row := tal n fun _ => topP
theorem hAll_spec {g : Gr} {t : Tr} {z : Row} : ∀ i : Nat, i ≤ t.length → (hAll g t z i).length = t.length ∧ (∀ k, k < t.length - i → row2 (hAll g t z i) k = tops g.n) ∧ ∀ k, t.length - i ≤ k → k < t.length → row2 (hAll g t z i) k = g.rules.foldl (rowStep (boundT t z (hAll g t z i) k)) (tops g.n)
  | 0, _ => by
    refine ⟨tal_len, fun k hk => ?_, fun k h1 h2 => by omega⟩
    have h := row2_get (r := hAll g t z 0) (i := k) (by show k < (tal _ _).length; rw [tal_len]; omega)
    have h2 : (tal t.length fun _ => tal g.n fun _ => topP)[k]? = some (row2 (hAll g t z 0) k) := h
    rw [tal_get (by omega)] at h2
    exact (Option.some.inj h2).symm
  | i + 1, hi => by
    obtain ⟨h1, h2, h3⟩ := hAll_spec (g := g) (t := t) (z := z) i (by omega)
    have hk0 : t.length - 1 - i < (hAll g t z i).length := by omega
    have e : hAll g t z (i + 1) = (hAll g t z i).set (t.length - 1 - i) (g.rules.foldl (rowStep (boundT t z (hAll g t z i) (t.length - 1 - i))) (row2 (hAll g t z i) (t.length - 1 - i))) := hNode_eq hk0
    refine ⟨by rw [e, List.length_set]; exact h1, fun k hk => ?_, fun k hk1 hk2 => ?_⟩
    · rw [e, row2_set hk0, if_neg (by omega)]
      exact h2 k (by omega)
    · have ec : boundT t z (hAll g t z (i + 1)) k = boundT t z (hAll g t z i) k := boundT_congr fun c hc => by
        rw [e, row2_set hk0, if_neg (by have := (BN_mem hc).1; omega)]
      rw [ec]
      by_cases ek : k = t.length - 1 - i
      · subst ek
        rw [e, row2_set hk0, if_pos rfl, h2 _ (by omega)]
      · rw [e, row2_set hk0, if_neg ek]
        exact h3 k (by omega) hk2
section
variable {g : Gr} {t : Tr} {l : Nat → Nat}
/-- the true rows -/
abbrev TB (g : Gr) (t : Tr) : List Row := hAll g t (zAll g) t.length
theorem TB_len : (TB g t).length = t.length := (hAll_spec _ (Nat.le_refl _)).1
theorem TB_row {k : Nat} (hk : k < t.length) : row2 (TB g t) k = g.rules.foldl (rowStep (boundT t (zAll g) (TB g t) k)) (tops g.n) := (hAll_spec _ (Nat.le_refl _)).2.2 k (by omega) hk
theorem TB_rlen {k : Nat} (hk : k < t.length) : (row2 (TB g t) k).length = g.n := by rw [TB_row hk, rowF_len]; exact tal_len
theorem TB_mem {row : Row} (h : row ∈ TB g t) : ∃ k, k < t.length ∧ row = row2 (TB g t) k := by
  obtain ⟨k, hk⟩ := List.getElem?_of_mem h
  have hl := (List.getElem?_eq_some_iff.mp hk).1
  rw [row2_get hl] at hk
  exact ⟨k, by rw [← TB_len (g := g)]; exact hl, (Option.some.inj hk).symm⟩
abbrev sz (t : Tr) (k : Nat) : Int := ((EN t k - k : Nat) : Int)
theorem below_sum {B : List Row} {f e : Nat → Int} : ∀ {cs ps : List Nat}, cs.length = ps.length → (∀ c ∈ cs, ∀ p ∈ ps, (at2 (row2 B c) p).1 ≤ f c + e p ∧ (at2 (row2 B c) p).2 ≤ (at2 (row2 B c) p).1 + f c) →
    ((below (cs.map (row2 B)) ps).map (·.1)).sum ≤ (cs.map f).sum + (ps.map e).sum ∧ ((below (cs.map (row2 B)) ps).map (·.2)).sum ≤ ((below (cs.map (row2 B)) ps).map (·.1)).sum + (cs.map f).sum
  | [], [], _, _ => by simp [below]
  | [], _ :: _, h, _ => by cases h
  | _ :: _, [], h, _ => by cases h
  | c :: cs, p :: ps, h, hb => by
    obtain ⟨h1, h2⟩ := below_sum (B := B) (f := f) (e := e) (cs := cs) (ps := ps) (by simpa using h) fun c hc p hp => hb c (List.mem_cons_of_mem _ hc) p (List.mem_cons_of_mem _ hp)
    obtain ⟨h3, h4⟩ := hb c List.mem_cons_self p List.mem_cons_self
    have e1 : below ((c :: cs).map (row2 B)) (p :: ps) = at2 (row2 B c) p :: below (cs.map (row2 B)) ps := rfl
    rw [e1]
    simp only [List.map_cons, List.sum_cons]
    omega
theorem sum_cast (f : Nat → Nat) : ∀ cs : List Nat, (cs.map fun c => ((f c : Nat) : Int)).sum = (((cs.map f).sum : Nat) : Int)
  | [] => rfl
  | c :: cs => by
    rw [List.map_cons, List.map_cons, List.sum_cons, List.sum_cons, sum_cast f cs]; omega
theorem bound_le (gt : GrT g) (il : IsLeast g l) (tk : TreeOk t) {k : Nat} (hk : k < t.length) (hb : ∀ c ∈ BN t k, ∀ p, p < g.n → (at2 (row2 (TB g t) c) p).1 ≤ sz t c + l p ∧ (at2 (row2 (TB g t) c) p).2 ≤ (at2 (row2 (TB g t) c) p).1 + sz t c) {r : Rl} (hr : r ∈ g.rules) :
    (boundT t (zAll g) (TB g t) k r).1 ≤ sz t k + (((r.parts.map l).sum : Nat) : Int) + 1 ∧ (boundT t (zAll g) (TB g t) k r).2 ≤ (boundT t (zAll g) (TB g t) k r).1 + sz t k := by
  have rf := gt.ok.rf r hr
  have es : t[k]? = some t[k] := List.getElem?_eq_getElem hk
  have hE := EN_le hk
  have hw := tk.ok.1
  have ed : r.parts.map (at2 (zAll g)) = r.parts.map (at2 (dupl g.n l)) := by rw [zAll_eq gt il]
  have eB : boundT t (zAll g) (TB g t) k r = boundW t[k] (sz t k) (zAll g) ((BN t k).map (row2 (TB g t))) r := by
    unfold boundT; rw [es]; rfl
  rw [eB]
  unfold boundW
  have hz : (0 : Int) ≤ sz t k := Int.natCast_nonneg _
  by_cases e : r.sym = t[k]
  · rw [if_pos e]
    have hbl : (BN t k).length = r.parts.length := by
      rw [BN_len hw hk, many_at es, ← e]; rfl
    have hs := size_eq hw hk
    obtain ⟨h1, h2⟩ := below_sum (B := TB g t) (f := sz t) (e := fun p => ((l p : Nat) : Int)) hbl fun c hc p hp => hb c hc p (rf.parts p hp)
    have h3 : ((BN t k).map (sz t)).sum = sz t k - 1 := by
      have := sum_cast (fun r => EN t r - r) (BN t k)
      refine this.trans ?_
      show _ = ((EN t k - k : Nat) : Int) - 1
      omega
    have h4 : (r.parts.map fun p => ((l p : Nat) : Int)).sum = (((r.parts.map l).sum : Nat) : Int) := sum_cast l r.parts
    rw [h3] at h1 h2
    rw [h4] at h1
    generalize below ((BN t k).map (row2 (TB g t))) r.parts = L at h1 h2 ⊢
    generalize sz t k = S at h1 h2 ⊢
    refine ⟨?_, ?_⟩
    · show 0 + (L.map (·.1)).sum ≤ S + _ + 1
      omega
    · show 1 + (L.map (·.2)).sum ≤ 0 + (L.map (·.1)).sum + S
      omega
  · rw [if_neg e, ed, addPs_dup rf.parts]
    dsimp only
    generalize sz t k = S at hz ⊢
    omega
theorem topP_at {n i : Nat} (h : i < n) : at2 (tops n) i = topP := by
  have h1 := at2_get (r := tops n) (i := i) (by rw [tal_len]; exact h)
  rw [tal_get h] at h1
  exact (Option.some.inj h1).symm
theorem sz_le (tk : TreeOk t) {k : Nat} (hk : k < t.length) : sz t k ≤ 100 := by
  have := EN_le hk
  have := tk.few
  show ((EN t k - k : Nat) : Int) ≤ 100
  omega
/-- what stands in the true rows is small -/
theorem TB_small (gt : GrT g) (il : IsLeast g l) (tk : TreeOk t) : ∀ (d k : Nat), t.length - k ≤ d → k < t.length → ∀ i, i < g.n → (at2 (row2 (TB g t) k) i).1 ≤ sz t k + l i ∧ (at2 (row2 (TB g t) k) i).2 ≤ (at2 (row2 (TB g t) k) i).1 + sz t k
  | 0, k, hd, hk => by omega
  | d + 1, k, hd, hk => by
    intro i hi
    have hb : ∀ c ∈ BN t k, ∀ p, p < g.n → (at2 (row2 (TB g t) c) p).1 ≤ sz t c + l p ∧ (at2 (row2 (TB g t) c) p).2 ≤ (at2 (row2 (TB g t) c) p).1 + sz t c := fun c hc p hp => by
      have := BN_mem hc
      exact TB_small gt il tk d c (by omega) this.2 p hp
    obtain ⟨r, hr, er, hl⟩ := il.rule gt.ok hi
    have h1 := rowF_rule (b := boundT t (zAll g) (TB g t) k) (rs := g.rules) (row := tops g.n) (n := g.n) tal_len (fun r hr => (gt.ok.rf r hr).res) hr
    rw [← TB_row hk, er, pLt_no] at h1
    have h2 := (bound_le gt il tk hk hb hr).1
    have h3 : (at2 (row2 (TB g t) k) i).1 ≤ sz t k + l i := by omega
    refine ⟨h3, ?_⟩
    rcases rowF_from (b := boundT t (zAll g) (TB g t) k) (rs := g.rules) (row := tops g.n) (n := g.n) (i := i) tal_len (fun r hr => (gt.ok.rf r hr).res) with h | ⟨r', hr', e', h⟩
    · rw [← TB_row hk, topP_at hi] at h
      rw [h] at h3
      have h4 : (1000 : Int) ≤ sz t k + l i := h3
      have h5 := gt.le85 il hi
      have h6 := sz_le tk hk
      omega
    · rw [← TB_row hk] at h
      rw [h]
      exact (bound_le gt il tk hk hb hr').2
theorem TB_at (gt : GrT g) (il : IsLeast g l) (tk : TreeOk t) {k i : Nat} (hk : k < t.length) (hi : i < g.n) : (at2 (row2 (TB g t) k) i).1 ≤ 185 ∧ (at2 (row2 (TB g t) k) i).2 ≤ 285 := by
  obtain ⟨h1, h2⟩ := TB_small gt il tk _ k (Nat.le_refl _) hk i hi
  have h5 := gt.le85 il hi
  have h6 := sz_le tk hk
  omega
theorem fromTop_small {o : Option PI} {p : PI} (h : p = fromTop o) (hp : p.1 ≤ 185) : o = some p := by
  unfold fromTop at h
  cases o with
  | none =>
    have h' : p = topP := h
    rw [h'] at hp
    have : (1000 : Int) ≤ 185 := hp
    omega
  | some k =>
    have h' : p = min2 topP k := h
    rcases min2_or topP k with e | e
    · rw [e] at h'
      rw [h'] at hp
      have : (1000 : Int) ≤ 185 := hp
      omega
    · rw [e] at h'; rw [h']
theorem TB_near (gt : GrT g) (il : IsLeast g l) (tk : TreeOk t) : NearK g t (dupl g.n l) (TB g t) := by
  refine ⟨TB_len, fun k hk => ?_, fun row hrow p hp => ?_, fun row hrow => ?_⟩
  · rw [← zAll_eq gt il]
    have e := TB_row (g := g) hk
    have hb : boundT t (zAll g) (TB g t) k = boundW (symAt t k) ((EN t k - k : Nat) : Int) (zAll g) ((BN t k).map (row2 (TB g t))) := rfl
    obtain ⟨h1, h2⟩ := rowF_best (s := symAt t k) (size := ((EN t k - k : Nat) : Int)) (z := zAll g) (lower := (BN t k).map (row2 (TB g t))) (n := g.n) (rs := g.rules) (row := tops g.n) (acc := tal g.n fun _ => none) tal_len tal_len (fun r hr => (gt.ok.rf r hr).res) fun i => by
      rcases Nat.lt_or_ge i g.n with z | z
      · exact .inl (by rw [topP_at z, tal_get z]; rfl)
      · exact .inr z
    rw [← hb, ← e] at h2
    apply List.ext_getElem?
    intro i
    rcases Nat.lt_or_ge i g.n with z | z
    · rw [List.getElem?_map, at2_get (by rw [TB_rlen hk]; exact z)]
      rcases h2 i with h3 | h3
      · have h4 := fromTop_small h3 (TB_at gt il tk hk z).1
        have h5 : (bestK g (symAt t k) ((EN t k - k : Nat) : Int) (zAll g) ((BN t k).map (row2 (TB g t))))[i]?.getD none = some (at2 (row2 (TB g t) k) i) := h4
        have h6 : i < (bestK g (symAt t k) ((EN t k - k : Nat) : Int) (zAll g) ((BN t k).map (row2 (TB g t)))).length := by
          exact Nat.lt_of_lt_of_eq z (show g.n = (bestK g (symAt t k) ((EN t k - k : Nat) : Int) (zAll g) ((BN t k).map (row2 (TB g t)))).length from h1.symm)
        rw [List.getElem?_eq_getElem h6] at h5 ⊢
        show some (some _) = some _
        rw [← h5]; rfl
      · omega
    · rw [List.getElem?_eq_none (by rw [List.length_map, TB_rlen hk]; exact z), List.getElem?_eq_none (Nat.le_trans (Nat.le_of_eq (show (bestK g (symAt t k) ((EN t k - k : Nat) : Int) (zAll g) ((BN t k).map (row2 (TB g t)))).length = g.n from h1)) z)]
  · obtain ⟨k, hk, rfl⟩ := TB_mem hrow
    obtain ⟨i, hi⟩ := List.getElem?_of_mem hp
    have hl := (List.getElem?_eq_some_iff.mp hi).1
    rw [at2_get hl] at hi
    rw [TB_rlen hk] at hl
    rw [← Option.some.inj hi]
    have := (TB_at gt il tk hk hl).2
    omega
  · obtain ⟨k, hk, rfl⟩ := TB_mem hrow
    exact TB_rlen hk
theorem firstBad_none {f : Nat → Bool} : ∀ {m k : Nat}, (∀ i, k ≤ i → i < k + m → f i = false) → firstBad f k m = none
  | 0, _, _ => rfl
  | m + 1, k, h => by
    rw [firstBad, h k (Nat.le_refl _) (by omega), if_neg Bool.false_ne_true]
    exact firstBad_none fun i h1 h2 => h i (by omega) (by omega)
theorem judge_told {s : Sh} (h1 : ∀ r ∈ g.rules, ruleBad s.z r = false) (h2 : ∀ k, k < t.length → ∀ r ∈ g.rules, floorBad t s k r = false) : judge g t s = .told (minP (g.starts.map (at2 (row2 s.h 0)))) := by
  unfold judge
  rw [firstBad_none (fun i _ hi => ?_), firstBad_none (fun i _ hi => ?_)]
  · unfold floorAt
    rw [List.any_eq_false]
    intro r hr
    rw [h2 i (by omega) r hr]; exact Bool.false_ne_true
  · unfold ruleAt
    have hi' : i < g.rules.length := by omega
    rw [List.getElem?_eq_getElem hi']
    exact h1 _ (List.getElem_mem hi')
theorem true_rule (gt : GrT g) (il : IsLeast g l) {r : Rl} (hr : r ∈ g.rules) : ruleBad (zAll g) r = false := by
  have rf := gt.ok.rf r hr
  have := il.le gt.ok hr
  unfold ruleBad
  rw [zAll_eq gt il, addPs_dup rf.parts, dupl_at rf.res, pLt_no]
  dsimp only
  omega
theorem true_floor (gt : GrT g) {k : Nat} (hk : k < t.length) {r : Rl} (hr : r ∈ g.rules) : floorBad t (trueSh g t) k r = false := by
  have h1 := rowF_rule (b := boundT t (zAll g) (TB g t) k) (rs := g.rules) (row := tops g.n) (n := g.n) tal_len (fun r hr => (gt.ok.rf r hr).res) hr
  rw [← TB_row hk] at h1
  exact h1
theorem judge_true (gt : GrT g) : judge g t (trueSh g t) = .told (minP (g.starts.map (at2 (row2 (TB g t) 0)))) := by
  obtain ⟨l, il⟩ := least_ex gt.der
  exact judge_told (fun r hr => true_rule gt il hr) fun k hk r hr => true_floor gt hk hr
/-- the first row lowered -/
theorem judge_low (gt : GrT g) {row0 : Row} (h0 : ∀ i, i < g.n → pLt (at2 (row2 (TB g t) 0) i) (at2 row0 i) = false) (ht : 0 < t.length) : judge g t ⟨zAll g, row0 :: (TB g t).drop 1⟩ = .told (minP (g.starts.map (at2 row0))) := by
  obtain ⟨l, il⟩ := least_ex gt.der
  have hrow : ∀ c, 0 < c → row2 (row0 :: (TB g t).drop 1) c = row2 (TB g t) c := fun c hc => by
    unfold row2
    obtain ⟨c', rfl⟩ : ∃ c', c = c' + 1 := ⟨c - 1, by omega⟩
    rw [List.getD_eq_getElem?_getD, List.getD_eq_getElem?_getD, List.getElem?_cons_succ, List.getElem?_drop, Nat.add_comm]
  refine judge_told (s := ⟨zAll g, row0 :: (TB g t).drop 1⟩) (fun r hr => true_rule gt il hr) fun k hk r hr => ?_
  have h1 := true_floor (t := t) gt hk hr
  have rf := gt.ok.rf r hr
  unfold floorBad at h1 ⊢
  have eb : boundT t (zAll g) (row0 :: (TB g t).drop 1) k = boundT t (zAll g) (TB g t) k := boundT_congr fun c hc => hrow c (by have := (BN_mem hc).1; omega)
  show pLt (boundT t (zAll g) (row0 :: (TB g t).drop 1) k r) (at2 (row2 (row0 :: (TB g t).drop 1) k) r.res) = false
  rw [eb]
  rcases Nat.eq_zero_or_pos k with rfl | hk0
  · exact pLe_tr (h0 r.res rf.res) h1
  · rw [hrow k hk0]; exact h1
theorem trueSh_ok (g : Gr) (t : Tr) (gt : GrT g) : ShOk g.n t.length (trueSh g t) := by
  obtain ⟨l, il⟩ := least_ex gt.der
  refine ⟨?_, TB_len, fun row hrow => ?_⟩
  · show (zAll g).length = g.n
    rw [zAll_eq gt il]; exact tal_len
  · obtain ⟨k, hk, rfl⟩ := TB_mem hrow
    exact TB_rlen hk
end
end DL
set_option Elab.async false
set_option linter.all false
set_option maxRecDepth 100000
set_option maxHeartbeats 4000000
namespace DL
open PySem PySem.Spec PyProof.Rows L2
/-! PLl: least_trees, floors_of. -/
def sp_least_trees : PSp := fun qs Qd _ => ∃ (g : Gr) (l : Nat → Nat), qs = [encG g] ∧ GrT g ∧ IsLeast g l ∧ ∀ least, LeastOk g.n least → (∀ i t, least[i]? = some t → t.length = l i) → Qd (.tuple (least.map encT))
theorem len_least_trees {a b c} (h : sp_least_trees a b c) : a.length = 1 := by
  obtain ⟨g, l, rfl, _⟩ := h; rfl
def t_least_trees : DS :=
  dSeq (dAsg (dCallM sp_settled_trees (aCons (dOp ixD (dVar 0) (dC (.int 2))) (aNil))) (dName 1)) (dRet (dCB tupleC (aCons (dLc (iRange (dOp ixD (dVar 0) (dC (.int 0)))) (dName 2) (dYes) (dGet1 (dVar 1) (dVar 2)) [2] finL) (aNil))))
theorem law_least_trees {a b c} (h : sp_least_trees a b c) : t_least_trees { nx := fun _ _ => b .none, rt := fun d M => ∃ r, viewD M d = some r ∧ b r } (startD ["grammar", "found", "name"] (a.map .dat)) M0 := by
  obtain ⟨g, l, rfl, gt, il, q⟩ := h
  have hgn := gt.ok.few
  refine ⟨_, _, rfl, rfl, g, l, rfl, gt, il, fun pf kvs M' hM hk => ?_⟩
  have hex : ∀ i, ∃ t : Tr, i < g.n → valD kvs (kI i) = some (.dat (encT t)) ∧ t.length = l i ∧ ∀ s ∈ t, PyData.strOk s.1 = true := fun i => by
    by_cases hi : i < g.n
    · obtain ⟨t, ht⟩ := hk i hi
      exact ⟨t, fun _ => ht⟩
    · exact ⟨[], fun z => absurd z hi⟩
  obtain ⟨T, hT⟩ : ∃ T : Nat → Tr, ∀ i, i < g.n → valD kvs (kI i) = some (.dat (encT (T i))) ∧ (T i).length = l i ∧ ∀ s ∈ T i, PyData.strOk s.1 = true := ⟨fun i => Classical.choose (hex i), fun i hi => Classical.choose_spec (hex i) hi⟩
  refine ⟨_, _, rfl, rfl, ⟨by omega, by omega⟩, by rw [upTo_len]; omega, lc_map (List.range g.n) (fun k => D.dat (encN k)) (fun k => .dat (encT (T k))) (range_items g.n) trivial (fun k hk K kk => ?_) (finL_map (fun k => encT (T k)) (List.range g.n) ?_)⟩
  · refine ⟨⟨kvs, hM⟩, kvs, hM, ?_⟩
    rw [(hT k (List.mem_range.mp hk)).1]
    exact kk
  · have em : (List.range g.n).map (fun k => encT (T k)) = ((List.range g.n).map T).map encT := by rw [List.map_map]; rfl
    rw [em]
    refine ⟨_, _, rfl, datsOf_map _, _, rfl, q _ ⟨?_, fun t ht => ?_, fun t ht => ?_⟩ fun i t hi => ?_⟩
    · rw [List.length_map, List.length_range]
    · obtain ⟨i, hi, rfl⟩ := List.mem_map.mp ht
      have hi' := List.mem_range.mp hi
      rw [(hT i hi').2.1]
      have := gt.le85 il hi'
      omega
    · obtain ⟨i, hi, rfl⟩ := List.mem_map.mp ht
      exact (hT i (List.mem_range.mp hi)).2.2
    · rw [List.getElem?_map] at hi
      by_cases h : i < g.n
      · rw [List.getElem?_range h] at hi
        rw [← Option.some.inj hi]
        exact (hT i h).2.1
      · rw [List.getElem?_eq_none (by rw [List.length_range]; omega)] at hi
        cases hi
def sp_floors_of (CN : Addr) : PSp := fun qs Qd Ed => ∃ (g : Gr) (td : PyData), qs = [encG g, td] ∧ fit td = true ∧ ((isTreeP td = false ∧ Ed ⟨CN, "tree", -1⟩) ∨ (isTreeP td = true ∧ ∃ t : Tr, td = encT t ∧ TreeOk t ∧ GrT g ∧ Qd (encSh (trueSh g t))))
theorem len_floors_of {C_NotUsable : Addr} {a b c} (h : (sp_floors_of C_NotUsable) a b c) : a.length = 2 := by
  obtain ⟨g, td, rfl, _⟩ := h; rfl
def t_floors_of (C_NotUsable : Addr) : DS :=
  dSeq (dIfS (dNot (dB (dCallP sp_is_tree (aCons (dVar 1) (aNil))))) (dRaise C_NotUsable (aCons (dC (.str (Str.ofString "tree"))) (aCons (dUn negD (dC (.int 1))) (aNil)))) (dNext)) (dSeq (dAsg (dCallP sp_least_trees (aCons (dVar 0) (aNil))) (dName 2)) (dSeq (dAsg (dCB tupleC (aCons (dLc (iSeq (dVar 2)) (dName 6) (dYes) (dTup (aCons (dCB lenC (aCons (dVar 6) (aNil))) (aCons (dCB lenC (aCons (dVar 6) (aNil))) (aNil)))) [6] finL) (aNil))) (dName 3)) (dSeq (dAsg (dCallP sp_nearest_by_node (aCons (dVar 0) (aCons (dVar 1) (aCons (dVar 2) (aNil))))) (dName 4)) (dSeq (dAsg (dCB tupleC (aCons (dLc (iSeq (dVar 4)) (dName 7) (dYes) (dCB tupleC (aCons (dLc (iSeq (dVar 7)) (dName 8) (dYes) (dTup (aCons (dOp ixD (dVar 8) (dC (.int 0))) (aCons (dOp ixD (dVar 8) (dC (.int 1))) (aNil)))) [8] finL) (aNil))) [7] finL) (aNil))) (dName 5)) (dRet (dTup (aCons (dVar 3) (aCons (dVar 5) (aNil)))))))))
theorem law_floors_of {C_NotUsable : Addr} {a b c} (h : (sp_floors_of C_NotUsable) a b c) : t_floors_of C_NotUsable { nx := fun _ _ => b .none, rt := fun d M => ∃ r, viewD M d = some r ∧ b r, xn := fun x _ _ => c x } (startD ["driven", "tree", "least", "z", "nearest", "h", "other", "rows", "row"] (a.map .dat)) M0 := by
  obtain ⟨g, td, rfl, ftd, hh⟩ := h
  refine ⟨_, rfl, td, rfl, ftd, ?_⟩
  rcases hh with ⟨e, q⟩ | ⟨e, t, rfl, tk, gt, q⟩
  · rw [e]
    exact q
  rw [e]
  obtain ⟨l, il⟩ := least_ex gt.der
  have hgn := gt.ok.few
  have tl := tk.few
  refine ⟨_, rfl, g, l, rfl, gt, il, fun least lk hl => ?_⟩
  have hll := lk.len
  have ez : keys (plainE least) = dupl g.n l := by
    unfold keys plainE dupl
    apply List.ext_getElem?
    intro i
    rw [List.map_map, List.getElem?_map]
    by_cases h : i < g.n
    · have hi : least[i]? = some least[i] := List.getElem?_eq_getElem (by omega)
      rw [tal_get h, ← hl i _ hi, hi]
      rfl
    · rw [List.getElem?_eq_none (by omega), List.getElem?_eq_none (by rw [tal_len]; omega)]; rfl
  have nk := TB_near gt il tk
  rw [← ez] at nk
  refine ⟨_, rfl, by rw [List.length_map, List.length_map]; omega, lc_dat least encT (fun t => encP (((t.length : Nat) : Int), ((t.length : Nat) : Int))) rfl (fun u hu K k => ?_) ?_⟩
  · have el : ((u.map encS).map D.dat).length = u.length := by rw [List.length_map, List.length_map]
    refine ⟨_, rfl, _, rfl, ?_⟩
    rw [el]
    exact ⟨ok16 rfl, k⟩
  have e1 : least.map (fun t => encP (((t.length : Nat) : Int), ((t.length : Nat) : Int))) = (dupl g.n l).map encP := by
    rw [← ez]
    unfold keys plainE
    rw [List.map_map, List.map_map]; rfl
  rw [e1]
  refine ⟨_, _, rfl, datsOf_map _, _, rfl, g, t, least, TB g t, rfl, gt.ok, gt.four, tk.ok, lk, nk, fun tb htb => ?_⟩
  have htl : tb.length = t.length := by
    have := congrArg List.length htb
    rw [List.length_map, TB_len] at this
    exact this
  have htr : ∀ r ∈ tb, r.length = g.n := fun r hr => by
    have : keys r ∈ TB g t := by rw [← htb]; exact List.mem_map_of_mem hr
    have := nk.rows _ this
    unfold keys at this
    rw [List.length_map] at this
    exact this
  refine ⟨_, rfl, by rw [List.length_map, List.length_map]; omega, lc_dat tb encERow (fun r => encRow (keys r)) rfl (fun r hr K k => ?_) ?_⟩
  · have hrl := htr r hr
    refine ⟨_, rfl, by rw [List.length_map, List.length_map]; omega, lc_dat r encE (fun e => encP (keyE e)) rfl (fun e he K k => ⟨_, _, rfl, rfl, _, _, rfl, rfl, ok16 rfl, k⟩) ?_⟩
    have e2 : r.map (fun e => encP (keyE e)) = (keys r).map encP := by unfold keys; rw [List.map_map]; rfl
    rw [e2]
    exact ⟨_, _, rfl, datsOf_map _, k⟩
  · have e2 : tb.map (fun r => encRow (keys r)) = (TB g t).map encRow := by rw [← htb, List.map_map]; rfl
    rw [e2]
    refine ⟨_, _, rfl, datsOf_map _, ok16 rfl, _, rfl, ?_⟩
    have e3 : encSh (trueSh g t) = .tuple [.tuple ((dupl g.n l).map encP), .tuple ((TB g t).map encRow)] := by
      rw [← zAll_eq gt il]; rfl
    rw [e3] at q
    exact q
end DL
set_option Elab.async false
set_option linter.all false
set_option maxRecDepth 100000
set_option maxHeartbeats 4000000
namespace DL
open PySem PySem.Spec PyProof.Rows L2
/-! PM5: what trimming a grammar does. -/
structure FreeOk (g : Gr) : Prop where
  few : g.n ≤ 4
  rf : ∀ r ∈ g.rules, RlFit g.n r
  four : ∀ r ∈ g.rules, r.parts.length ≤ 4
  syms : ∀ r ∈ g.rules, SymOk r.sym
  rl : g.rules.length ≤ 1000
  st : ∀ s ∈ g.starts, s < g.n
  sl : g.starts.length ≤ 1000
abbrev BF := Nat → Bool
def updB (m : BF) (i : Nat) (b : Bool) : BF := fun j => if j = i then b else m j
def goodR (mk : BF) (rs : List Rl) : List Rl := rs.filter fun r => r.parts.all mk
theorem goodR_mem {mk : BF} {rs : List Rl} {r : Rl} : r ∈ goodR mk rs ↔ r ∈ rs ∧ ∀ p ∈ r.parts, mk p = true := by
  unfold goodR
  rw [List.mem_filter, List.all_eq_true]
def gd (g : Gr) (mk : BF) : Gr := ⟨g.n, g.starts, goodR mk g.rules⟩
theorem Der.mono {g g' : Gr} (h : ∀ r ∈ g.rules, r ∈ g'.rules) : ∀ {i m : Nat}, Der g i m → Der g' i m := by
  intro i m d
  induction d with
  | of r f hr hf ih => exact Der.of r f (h r hr) ih
def MkOk (g : Gr) (mk : BF) : Prop := ∀ i, mk i = true → i < g.n ∧ ∃ m, Der (gd g mk) i m
theorem goodR_mono {mk mk' : BF} {rs : List Rl} (h : ∀ i, mk i = true → mk' i = true) : ∀ r ∈ goodR mk rs, r ∈ goodR mk' rs := fun r hr => by
  obtain ⟨h1, h2⟩ := goodR_mem.mp hr
  exact goodR_mem.mpr ⟨h1, fun p hp => h p (h2 p hp)⟩
theorem MkOk.put {g : Gr} {mk : BF} (k : MkOk g mk) {r : Rl} (hr : r ∈ g.rules) (hn : r.res < g.n) (hp : ∀ p ∈ r.parts, mk p = true) : MkOk g (updB mk r.res true) := by
  have hm : ∀ i, mk i = true → updB mk r.res true i = true := fun i hi => by
    unfold updB
    by_cases e : i = r.res
    · rw [if_pos e]
    · rw [if_neg e]; exact hi
  have hd : ∀ {i m : Nat}, Der (gd g mk) i m → Der (gd g (updB mk r.res true)) i m := Der.mono (goodR_mono hm)
  intro i hi
  by_cases e : i = r.res
  · subst e
    refine ⟨hn, ?_⟩
    have hex : ∀ p, ∃ m, p ∈ r.parts → Der (gd g (updB mk r.res true)) p m := fun p => by
      by_cases z : p ∈ r.parts
      · obtain ⟨_, m, hm⟩ := k p (hp p z)
        exact ⟨m, fun _ => hd hm⟩
      · exact ⟨0, fun y => absurd y z⟩
    exact ⟨_, Der.of r (fun p => Classical.choose (hex p)) (goodR_mem.mpr ⟨hr, fun p z => hm p (hp p z)⟩) fun p z => Classical.choose_spec (hex p) z⟩
  · unfold updB at hi
    rw [if_neg e] at hi
    obtain ⟨h1, m, h2⟩ := k i hi
    exact ⟨h1, m, hd h2⟩
/-- what stands: a part of a rule, a rule, a round -/
def pStep (r : Rl) (st : BF) (p : Nat) : BF := updB st p (st p || st r.res)
def rStep (st : BF) (r : Rl) : BF := r.parts.foldl (pStep r) st
def sRound (gs : List Rl) (st : BF) : BF := gs.foldl rStep st
def Lq (a b : BF) : Prop := ∀ i, a i = true → b i = true
theorem Lq.refl {a : BF} : Lq a a := fun _ h => h
theorem Lq.trans {a b c : BF} (h : Lq a b) (h' : Lq b c) : Lq a c := fun i z => h' i (h i z)
theorem pStep_le {r : Rl} {st : BF} {p : Nat} : Lq st (pStep r st p) := fun i h => by
  unfold pStep updB
  by_cases e : i = p
  · rw [if_pos e, ← e, h]; rfl
  · rw [if_neg e]; exact h
theorem pFold_le {r : Rl} : ∀ {ps : List Nat} {st : BF}, Lq st (ps.foldl (pStep r) st)
  | [], _ => .refl
  | _ :: _, _ => pStep_le.trans pFold_le
theorem rStep_le {r : Rl} {st : BF} : Lq st (rStep st r) := pFold_le
theorem rFold_le : ∀ {gs : List Rl} {st : BF}, Lq st (gs.foldl rStep st)
  | [], _ => .refl
  | _ :: _, _ => rStep_le.trans rFold_le
theorem pFold_in {r : Rl} : ∀ {ps : List Nat} {st : BF} {p : Nat}, p ∈ ps → st r.res = true → (ps.foldl (pStep r) st) p = true
  | q :: ps, st, p, h, hr => by
    rw [List.foldl_cons]
    rcases List.mem_cons.mp h with rfl | h
    · refine pFold_le p ?_
      unfold pStep updB
      rw [if_pos rfl, hr, Bool.or_true]
    · exact pFold_in h (pStep_le _ hr)
theorem rFold_in : ∀ {gs : List Rl} {st : BF} {r : Rl} {p : Nat}, r ∈ gs → p ∈ r.parts → st r.res = true → (gs.foldl rStep st) p = true
  | x :: gs, st, r, p, h, hp, hr => by
    rw [List.foldl_cons]
    rcases List.mem_cons.mp h with rfl | h
    · exact rFold_le p (pFold_in hp hr)
    · exact rFold_in h hp (rStep_le _ hr)
def Closed (gs : List Rl) (st : BF) : Prop := ∀ r ∈ gs, st r.res = true → ∀ p ∈ r.parts, st p = true
theorem pFold_closed {r : Rl} {st : BF} (h : st r.res = true → ∀ p ∈ r.parts, st p = true) : ∀ {ps : List Nat}, (∀ p ∈ ps, p ∈ r.parts) → ps.foldl (pStep r) st = st
  | [], _ => rfl
  | p :: ps, hp => by
    rw [List.foldl_cons]
    have e : pStep r st p = st := by
      funext j
      unfold pStep updB
      by_cases z : j = p
      · rw [if_pos z, z]
        cases hr : st r.res with
        | false => rw [Bool.or_false]
        | true => rw [h hr p (hp p List.mem_cons_self)]; rfl
      · rw [if_neg z]
    rw [e]
    exact pFold_closed h fun q hq => hp q (List.mem_cons_of_mem _ hq)
theorem sRound_closed : ∀ {gs : List Rl} {st : BF}, Closed gs st → sRound gs st = st
  | [], _, _ => rfl
  | r :: gs, st, h => by
    show gs.foldl rStep (rStep st r) = st
    rw [show rStep st r = st from pFold_closed (h r List.mem_cons_self) fun _ z => z]
    exact sRound_closed fun x hx => h x (List.mem_cons_of_mem _ hx)
def cnt (n : Nat) (st : BF) : Nat := ((List.range n).filter st).length
theorem cnt_lt {n p : Nat} {a b : BF} (h : Lq a b) (hp : p < n) (ha : a p = false) (hb : b p = true) : cnt n a < cnt n b := by
  unfold cnt
  have e : (List.range n).filter a = ((List.range n).filter b).filter a := by
    rw [List.filter_filter]
    refine List.filter_congr fun j _ => ?_
    cases h1 : a j with
    | true => rw [h j h1]; rfl
    | false => rfl
  rw [e]
  exact List.length_filter_lt_length_iff_exists.mpr ⟨p, by simp [hp, hb], by rw [ha]; exact Bool.false_ne_true⟩
theorem cnt_le {n : Nat} {a : BF} : cnt n a ≤ n := by
  have := List.length_filter_le a (List.range n)
  rw [List.length_range] at this
  exact this
theorem rounds_closed {gs : List Rl} {n : Nat} {st : BF} (hp : ∀ r ∈ gs, r.res < n ∧ ∀ p ∈ r.parts, p < n) : ∀ k : Nat, Closed gs (iter (sRound gs) k st) ∨ k + 1 ≤ cnt n (iter (sRound gs) k st)
  | 0 => by
    by_cases h : Closed gs st
    · exact .inl h
    · right
      apply Classical.byContradiction
      intro z
      apply h
      intro r hr hst p hpp
      have h0 : 0 < cnt n st := List.length_pos_of_mem (List.mem_filter.mpr ⟨List.mem_range.mpr (hp r hr).1, hst⟩)
      exact absurd h0 (by have z' : ¬ 0 + 1 ≤ cnt n st := z; omega)
  | k + 1 => by
    rcases rounds_closed hp k with h | h
    · left
      show Closed gs (sRound gs (iter (sRound gs) k st))
      rw [sRound_closed h]; exact h
    · by_cases hc : Closed gs (iter (sRound gs) k st)
      · left
        show Closed gs (sRound gs (iter (sRound gs) k st))
        rw [sRound_closed hc]; exact hc
      · right
        obtain ⟨r, hr, p, hpp, h1, h2⟩ : ∃ r, r ∈ gs ∧ ∃ p, p ∈ r.parts ∧ iter (sRound gs) k st r.res = true ∧ iter (sRound gs) k st p = false := by
          apply Classical.byContradiction
          intro z
          apply hc
          intro r hr hst p hpp
          cases e : iter (sRound gs) k st p with
          | true => rfl
          | false => exact (z ⟨r, hr, p, hpp, hst, e⟩).elim
        have := cnt_lt (n := n) (a := iter (sRound gs) k st) (b := iter (sRound gs) (k + 1) st) rFold_le ((hp r hr).2 p hpp) h2 (rFold_in hr hpp h1)
        omega
theorem rounds_end {gs : List Rl} {n : Nat} {st : BF} (hp : ∀ r ∈ gs, r.res < n ∧ ∀ p ∈ r.parts, p < n) : Closed gs (iter (sRound gs) n st) := by
  rcases rounds_closed (st := st) hp n with h | h
  · exact h
  · have := cnt_le (n := n) (a := iter (sRound gs) n st)
    omega
/-- what stays true of what stands -/
structure StOk (g : Gr) (mk st : BF) : Prop where
  made : ∀ i, st i = true → mk i = true
  start : (∃ i, st i = true) → ∃ s ∈ g.starts, st s = true
theorem StOk.pstep {g : Gr} {mk st : BF} (h : StOk g mk st) {r : Rl} {p : Nat} (hp : mk p = true) : StOk g mk (pStep r st p) := by
  refine ⟨fun i hi => ?_, fun ⟨i, hi⟩ => ?_⟩
  · unfold pStep updB at hi
    by_cases e : i = p
    · rw [e]; exact hp
    · rw [if_neg e] at hi; exact h.made i hi
  · have : ∃ i, st i = true := by
      unfold pStep updB at hi
      by_cases e : i = p
      · rw [if_pos e, Bool.or_eq_true] at hi
        rcases hi with hi | hi
        · exact ⟨_, hi⟩
        · exact ⟨_, hi⟩
      · rw [if_neg e] at hi; exact ⟨i, hi⟩
    obtain ⟨s, hs, h2⟩ := h.start this
    exact ⟨s, hs, pStep_le s h2⟩
theorem StOk.pfold {g : Gr} {mk : BF} {r : Rl} : ∀ {ps : List Nat} {st : BF}, StOk g mk st → (∀ p ∈ ps, mk p = true) → StOk g mk (ps.foldl (pStep r) st)
  | [], _, h, _ => h
  | p :: ps, st, h, hp => StOk.pfold (ps := ps) (st := pStep r st p) (h.pstep (hp p List.mem_cons_self)) fun q hq => hp q (List.mem_cons_of_mem _ hq)
theorem StOk.rfold {g : Gr} {mk : BF} : ∀ {gs : List Rl} {st : BF}, StOk g mk st → (∀ r ∈ gs, ∀ p ∈ r.parts, mk p = true) → StOk g mk (gs.foldl rStep st)
  | [], _, h, _ => h
  | r :: gs, st, h, hp => StOk.rfold (gs := gs) (st := rStep st r) (StOk.pfold h (hp r List.mem_cons_self)) fun q hq => hp q (List.mem_cons_of_mem _ hq)
theorem StOk.iter {g : Gr} {mk : BF} {gs : List Rl} {st : BF} (h : StOk g mk st) (hp : ∀ r ∈ gs, ∀ p ∈ r.parts, mk p = true) : ∀ k, StOk g mk (DL.iter (sRound gs) k st)
  | 0 => h
  | k + 1 => StOk.rfold (StOk.iter h hp k) hp
/-- the new names -/
structure Ren (n : Nat) (st : BF) (kept : List Nat) (N : Nat → Nat) : Prop where
  to : ∀ i, i < n → st i = true → kept[N i]? = some i
theorem Ren.lt {n : Nat} {st : BF} {kept : List Nat} {N : Nat → Nat} (h : Ren n st kept N) {i : Nat} (hi : i < n) (hs : st i = true) : N i < kept.length := (List.getElem?_eq_some_iff.mp (h.to i hi hs)).1
def renR (N : Nat → Nat) (r : Rl) : Rl := ⟨N r.res, r.word, r.parts.map N⟩
theorem ren_der {g g' : Gr} {mk st : BF} {kept : List Nat} {N : Nat → Nat} (hren : Ren g.n st kept N) (fr : FreeOk g) (hc : Closed (goodR mk g.rules) st) (hr' : ∀ r ∈ goodR mk g.rules, st r.res = true → renR N r ∈ g'.rules) : ∀ {i m : Nat}, Der (gd g mk) i m → st i = true → Der g' (N i) m := by
  intro i m d
  induction d with
  | of r f hr hf ih =>
    intro hs
    have hps := hc r hr hs
    have rf := fr.rf r (goodR_mem.mp hr).1
    have e : (r.parts.map f).sum = ((renR N r).parts.map fun j => f (kept.getD j 0)).sum := by
      show _ = ((r.parts.map N).map _).sum
      rw [List.map_map]
      congr 1
      refine List.map_congr_left fun p hp => ?_
      show f p = f (kept.getD (N p) 0)
      rw [List.getD_eq_getElem?_getD, hren.to p (rf.parts p hp) (hps p hp)]; rfl
    rw [e]
    refine Der.of (g := g') (renR N r) (fun j => f (kept.getD j 0)) (hr' r hr hs) fun q hq => ?_
    obtain ⟨p, hp, rfl⟩ := List.mem_map.mp (show q ∈ r.parts.map N from hq)
    have h1 := ih p hp (hps p hp)
    rw [List.getD_eq_getElem?_getD, hren.to p (rf.parts p hp) (hps p hp)]
    exact h1
theorem GrT.rules_ne {g : Gr} (gt : GrT g) : g.rules ≠ [] := by
  obtain ⟨s, hs⟩ : ∃ s, s ∈ g.starts := by
    cases h : g.starts with
    | nil => exact (gt.ok.s0 h).elim
    | cons s l => exact ⟨s, List.mem_cons_self⟩
  obtain ⟨m, hm⟩ := gt.der s (gt.ok.st s hs)
  intro e
  cases hm with
  | of r f hr hf => rw [e] at hr; cases hr
/-- the trimmed grammar -/
theorem trim_ok {g : Gr} {mk st : BF} {N : Nat → Nat} {qs : List Rl} (fr : FreeOk g) (mo : MkOk g mk) (so : StOk g mk st) (hc : Closed (goodR mk g.rules) st) (hren : Ren g.n st ((List.range g.n).filter st) N) (hk : (List.range g.n).filter st ≠ [])
    (hq1 : ∀ y ∈ qs, y ∈ ((goodR mk g.rules).filter fun r => st r.res).map (renR N)) (hq2 : ∀ y ∈ ((goodR mk g.rules).filter fun r => st r.res).map (renR N), y ∈ qs) (hql : qs.length ≤ 1000) : GrT ⟨((List.range g.n).filter st).length, (g.starts.filter st).map N, qs⟩ := by
  have hkl : ((List.range g.n).filter st).length ≤ g.n := cnt_le
  have hf4 := fr.few
  have hmem : ∀ x, x ∈ qs ↔ ∃ r, (r ∈ g.rules ∧ ∀ p ∈ r.parts, mk p = true) ∧ st r.res = true ∧ renR N r = x := fun x => by
    constructor
    · intro hx
      obtain ⟨r, hr, e⟩ := List.mem_map.mp (hq1 x hx)
      obtain ⟨h1, h2⟩ := List.mem_filter.mp hr
      exact ⟨r, goodR_mem.mp h1, h2, e⟩
    · rintro ⟨r, h1, h2, e⟩
      exact hq2 x (List.mem_map.mpr ⟨r, List.mem_filter.mpr ⟨goodR_mem.mpr h1, h2⟩, e⟩)
  have hnk : ∀ k, k < ((List.range g.n).filter st).length → ∃ i, i < g.n ∧ st i = true ∧ N i = k := fun k hk => by
    obtain ⟨h1, h2⟩ := List.mem_filter.mp (List.getElem_mem hk)
    have h1 := List.mem_range.mp h1
    refine ⟨_, h1, h2, ?_⟩
    exact nodup_ix (List.nodup_range.filter st) (hren.to _ h1 h2) (List.getElem?_eq_getElem hk)
  refine ⟨⟨by show List.length _ ≤ 1000; omega, ?_, fun x hx => ?_, ?_, ?_, fun s hs => ?_⟩, by show List.length _ ≤ 4; omega, fun x hx => ?_, fun x hx => ?_, fun k hk => ?_⟩
  · exact hql
  · obtain ⟨r, h1, h2, rfl⟩ := (hmem x).mp hx
    have rf := fr.rf r h1.1
    refine ⟨rf.word, ?_, hren.lt rf.res h2, fun q hq => ?_⟩
    · show (r.parts.map N).length ≤ 1000
      rw [List.length_map]; exact rf.few
    · obtain ⟨p, hp, rfl⟩ := List.mem_map.mp (show q ∈ r.parts.map N from hq)
      exact hren.lt (rf.parts p hp) (hc r (goodR_mem.mpr h1) h2 p hp)
  · show List.length ((g.starts.filter st).map N) ≤ 1000
    have h1 := List.length_filter_le st g.starts
    have h2 := fr.sl
    rw [List.length_map]; omega
  · show (g.starts.filter st).map N ≠ []
    obtain ⟨i, hi⟩ : ∃ i, i ∈ (List.range g.n).filter st := by
      cases h : (List.range g.n).filter st with
      | nil => exact (hk h).elim
      | cons s l => exact ⟨s, List.mem_cons_self⟩
    obtain ⟨s, hs, h2⟩ := so.start ⟨i, (List.mem_filter.mp hi).2⟩
    intro e
    have : s ∈ g.starts.filter st := List.mem_filter.mpr ⟨hs, h2⟩
    rw [List.map_eq_nil_iff.mp e] at this
    cases this
  · obtain ⟨i, hi, rfl⟩ := List.mem_map.mp (show s ∈ (g.starts.filter st).map N from hs)
    obtain ⟨h1, h2⟩ := List.mem_filter.mp hi
    exact hren.lt (fr.st i h1) h2
  · obtain ⟨r, h1, h2, rfl⟩ := (hmem x).mp hx
    show (r.parts.map N).length ≤ 4
    rw [List.length_map]; exact fr.four r h1.1
  · obtain ⟨r, h1, h2, rfl⟩ := (hmem x).mp hx
    have := fr.syms r h1.1
    unfold Rl.sym at this ⊢
    show SymOk (r.word, (r.parts.map N).length)
    rw [List.length_map]; exact this
  · obtain ⟨i, hi, h2, rfl⟩ := hnk k hk
    obtain ⟨_, m, hm⟩ := mo i (so.made i h2)
    exact ⟨m, ren_der hren fr hc (fun r hr hs => (hmem _).mpr ⟨r, goodR_mem.mp hr, hs, rfl⟩) hm h2⟩
def isR (w : Str) (ps : List Nat) : Rl := ⟨0, w, ps⟩
/-- where nothing is left -/
theorem small_ok : GrT ⟨1, [0], [⟨0, "i", []⟩, ⟨0, "s", [0]⟩]⟩ := by
  have h1 : SymOk ("i", 0) := symsL_ok _ (by simp [symsL])
  have h2 : SymOk ("s", 1) := symsL_ok _ (by simp [symsL])
  refine ⟨⟨by show 1 ≤ 1000; omega, by show 2 ≤ 1000; omega, fun r hr => ?_, by show 1 ≤ 1000; omega, by show [0] ≠ []; simp, fun s hs => ?_⟩, by show 1 ≤ 4; omega, fun r hr => ?_, fun r hr => ?_, fun i hi => ?_⟩
  · simp only [List.mem_cons, List.not_mem_nil, or_false] at hr
    rcases hr with rfl | rfl
    · exact ⟨h1.str, by show 0 ≤ 1000; omega, by show 0 < 1; omega, fun p hp => by cases hp⟩
    · exact ⟨h2.str, by show 1 ≤ 1000; omega, by show 0 < 1; omega, fun p hp => by
        rcases List.mem_singleton.mp hp with rfl
        show 0 < 1; omega⟩
  · rcases List.mem_singleton.mp hs with rfl
    show 0 < 1; omega
  · simp only [List.mem_cons, List.not_mem_nil, or_false] at hr
    rcases hr with rfl | rfl
    · show 0 ≤ 4; omega
    · show 1 ≤ 4; omega
  · simp only [List.mem_cons, List.not_mem_nil, or_false] at hr
    rcases hr with rfl | rfl
    · exact h1
    · exact h2
  · have hi' : i < 1 := hi
    have : i = 0 := by omega
    subst this
    exact ⟨1, Der.of (g := ⟨1, [0], [⟨0, "i", []⟩, ⟨0, "s", [0]⟩]⟩) ⟨0, "i", []⟩ (fun _ => 0) (by simp) fun p hp => by cases hp⟩
end DL
set_option Elab.async false
set_option linter.all false
set_option maxRecDepth 100000
set_option maxHeartbeats 4000000
namespace DL
open PySem PySem.Spec PyProof.Rows L2
/-! PLm: trimming, walked. -/
def sp_law_trim : PSp := fun qs Qd _ => ∃ g : Gr, qs = [encG g] ∧ FreeOk g ∧ ∀ g' : Gr, GrT g' → Qd (encG g')
def bD (n : Nat) (st : BF) : List D := tal n fun i => D.dat (.bool (st i))
theorem bD_at {n i : Nat} {st : BF} (h : i < n) : atI (bD n st) (i : Int) = some (.dat (.bool (st i))) := atI_nat (tal_get h)
theorem bD_len {n : Nat} {st : BF} : (bD n st).length = n := tal_len
theorem bD_set {n i : Nat} {st : BF} {b : Bool} : (bD n st).set i (.dat (.bool b)) = bD n (updB st i b) := by
  unfold bD
  rw [tal_set]
  refine tal_ext fun j hj => ?_
  unfold updB
  by_cases e : j = i
  · rw [if_pos e, if_pos e]
  · rw [if_neg e, if_neg e]
theorem all_map {α : Type} {mk : α → Bool} {ps : List α} : (ps.map mk).all id = ps.all mk := by rw [List.all_map]; rfl
theorem in_ints {i : Nat} {ss : List Nat} : decide (((i : Nat) : Int) ∈ ss.map fun s => ((s : Nat) : Int)) = decide (i ∈ ss) := by
  refine decide_eq_decide.mpr ⟨fun h => ?_, fun h => List.mem_map.mpr ⟨i, h, rfl⟩⟩
  obtain ⟨s, hs, e⟩ := List.mem_map.mp h
  have : s = i := by omega
  rw [← this]; exact hs
def iD (n : Nat) (nu : Nat → Int) : List D := tal n fun i => D.dat (.int (nu i))
theorem iD_at {n i : Nat} {nu : Nat → Int} (h : i < n) : atI (iD n nu) (i : Int) = some (.dat (.int (nu i))) := atI_nat (tal_get h)
theorem iD_set {n i : Nat} {nu : Nat → Int} {b : Int} : (iD n nu).set i (.dat (.int b)) = iD n (fun j => if j = i then b else nu j) := by
  unfold iD
  rw [tal_set]
  refine tal_ext fun j hj => ?_
  show _ = D.dat (.int (if j = i then b else nu j))
  by_cases e : j = i
  · rw [if_pos e, if_pos e]
  · rw [if_neg e, if_neg e]
theorem encN_inj {a b : Nat} (h : encN a = encN b) : a = b := by
  have := PyData.int.inj h
  omega
theorem mapN_inj : ∀ {ps qs : List Nat}, ps.map encN = qs.map encN → ps = qs
  | [], [], _ => rfl
  | [], _ :: _, h => by cases h
  | _ :: _, [], h => by cases h
  | p :: ps, q :: qs, h => by
    rw [List.map_cons, List.map_cons] at h
    obtain ⟨h1, h2⟩ := List.cons.inj h
    rw [encN_inj h1, mapN_inj h2]
theorem encR_inj {r r' : Rl} (h : encR r = encR r') : r = r' := by
  obtain ⟨a, w, ps⟩ := r
  obtain ⟨a', w', ps'⟩ := r'
  have h1 := PyData.tuple.inj h
  obtain ⟨e1, h2⟩ := List.cons.inj h1
  obtain ⟨e2, h3⟩ := List.cons.inj h2
  obtain ⟨e3, _⟩ := List.cons.inj h3
  have e1' := encN_inj e1
  have e2' := PyData.str.inj e2
  have e3' := mapN_inj (PyData.tuple.inj e3)
  dsimp only at e1' e2' e3'
  subst e1' e2' e3'
  rfl
theorem alike_N : ∀ ns ms : List Nat, W.alikeAll (ns.map encN) (ms.map encN) = true
  | [], _ => by simp [W.alikeAll]
  | _ :: _, [] => by simp [W.alikeAll]
  | n :: ns, m :: ms => by
    rw [List.map_cons, List.map_cons, W.alikeAll, alike_N ns ms]
    simp [W.alike, encN]
theorem alike_R (r r' : Rl) : W.alike (encR r) (encR r') = true := by
  have := alike_N r.parts r'.parts
  simp [W.alike, W.alikeAll, encR, encL, encN] at this ⊢
  exact this
theorem depth_N : ∀ ns : List Nat, PyData.depthAll (ns.map encN) ≤ 0
  | [] => by simp [PyData.depthAll]
  | n :: ns => by
    have := depth_N ns
    rw [List.map_cons, PyData.depthAll]
    simp [encN, PyData.depth]
    omega
theorem depth_R (r : Rl) : PyData.depth (encR r) ≤ 60 := by
  have := depth_N r.parts
  simp [encR, encL, PyData.depth, PyData.depthAll, encN] at this ⊢
  omega
theorem len_law_trim {a b c} (h : sp_law_trim a b c) : a.length = 1 := by
  obtain ⟨g, rfl, _⟩ := h; rfl
def t_law_trim : DS :=
  dSeq (dAsg (dLc (iRange (dOp ixD (dVar 0) (dC (.int 0)))) (dName 13) (dYes) (dC (.bool false)) [13] finM) (dName 1)) (dSeq (dFor (iRange (dOp ixD (dVar 0) (dC (.int 0)))) (dName 2) (dFor (iSeq (dOp ixD (dVar 0) (dC (.int 2)))) (dTupG 3 (gsCons (dName 3) (gsCons (dName 4) (gsCons (dName 5) (gsNil))))) (dIfS (dB (dCB allC (aCons (dLc (iSeq (dVar 5)) (dName 6) (dYes) (dOp ixD (dVar 1) (dVar 6)) [6] finL) (aNil)))) (dAsg (dC (.bool true)) (dSub (dVar 1) (dVar 3) (setL))) (dNext)))) (dSeq (dAsg (dLc (iSeq (dOp ixD (dVar 0) (dC (.int 2)))) (dName 14) (dB (dCB allC (aCons (dLc (iSeq (dOp ixD (dVar 14) (dC (.int 2)))) (dName 6) (dYes) (dOp ixD (dVar 1) (dVar 6)) [6] finL) (aNil)))) (dVar 14) [14] finL) (dName 7)) (dSeq (dAsg (dLc (iRange (dOp ixD (dVar 0) (dC (.int 0)))) (dName 13) (dYes) (dAndV (dOp ixD (dVar 1) (dVar 13)) (dOp inTupD (dVar 13) (dOp ixD (dVar 0) (dC (.int 1))))) [13] finM) (dName 8)) (dSeq (dFor (iRange (dOp ixD (dVar 0) (dC (.int 0)))) (dName 2) (dFor (iSeq (dVar 7)) (dTupG 3 (gsCons (dName 3) (gsCons (dName 4) (gsCons (dName 5) (gsNil))))) (dFor (iSeq (dVar 5)) (dName 6) (dAsg (dOrV (dOp ixD (dVar 8) (dVar 6)) (dOp ixD (dVar 8) (dVar 3))) (dSub (dVar 8) (dVar 6) (setL)))))) (dSeq (dAsg (dLc (iRange (dOp ixD (dVar 0) (dC (.int 0)))) (dName 13) (dB (dOp ixD (dVar 8) (dVar 13))) (dVar 13) [13] finL) (dName 9)) (dSeq (dIfS (dB (dOp eqD (dCB lenC (aCons (dVar 9) (aNil))) (dC (.int 0)))) (dRet (dTup (aCons (dC (.int 1)) (aCons (dTup (aCons (dC (.int 0)) (aNil))) (aCons (dTup (aCons (dTup (aCons (dC (.int 0)) (aCons (dC (.str (Str.ofString "i"))) (aCons (dTup (aNil)) (aNil))))) (aCons (dTup (aCons (dC (.int 0)) (aCons (dC (.str (Str.ofString "s"))) (aCons (dTup (aCons (dC (.int 0)) (aNil))) (aNil))))) (aNil)))) (aNil)))))) (dNext)) (dSeq (dAsg (dLc (iRange (dOp ixD (dVar 0) (dC (.int 0)))) (dName 13) (dYes) (dUn negD (dC (.int 1))) [13] finM) (dName 10)) (dSeq (dFor (iRange (dCB lenC (aCons (dVar 9) (aNil)))) (dName 11) (dAsg (dVar 11) (dSub (dVar 10) (dOp ixD (dVar 9) (dVar 11)) (setL)))) (dSeq (dAsg (dLc (iSeq (dVar 7)) (dName 14) (dB (dOp ixD (dVar 8) (dOp ixD (dVar 14) (dC (.int 0))))) (dTup (aCons (dOp ixD (dVar 10) (dOp ixD (dVar 14) (dC (.int 0)))) (aCons (dOp ixD (dVar 14) (dC (.int 1))) (aCons (dCB tupleC (aCons (dLc (iSeq (dOp ixD (dVar 14) (dC (.int 2)))) (dName 6) (dYes) (dOp ixD (dVar 10) (dVar 6)) [6] finL) (aNil))) (aNil))))) [14] finL) (dName 12)) (dRet (dTup (aCons (dCB lenC (aCons (dVar 9) (aNil))) (aCons (dCB tupleC (aCons (dLc (iSeq (dOp ixD (dVar 0) (dC (.int 1)))) (dName 15) (dB (dOp ixD (dVar 8) (dVar 15))) (dOp ixD (dVar 10) (dVar 15)) [15] finL) (aNil))) (aCons (dCB tupleC (aCons (dCB sortedC (aCons (dVar 12) (aNil))) (aNil))) (aNil)))))))))))))))
theorem law_law_trim {a b c} (h : sp_law_trim a b c) : t_law_trim { nx := fun _ _ => b .none, rt := fun d M => ∃ r, viewD M d = some r ∧ b r } (startD ["_law_grammar", "_law_made", "_law_turn", "_law_result", "_law_word", "_law_parts", "_law_part", "_law_good", "_law_stands", "_law_kept", "_law_number", "_law_k", "_law_rules", "_law_name", "_law_rule", "_law_start"] (a.map .dat)) M0 := by
  obtain ⟨g, rfl, fr, q⟩ := h
  have hgn := fr.few
  have hrl := fr.rl
  have hsl := fr.sl
  refine ⟨_, _, rfl, rfl, ⟨by omega, by omega⟩, by rw [upTo_len]; omega, lc_map (List.range g.n) (fun k => D.dat (encN k)) (fun _ => .dat (.bool false)) (range_items g.n) trivial (fun k hk K kk => kk) fun pm hm => ?_⟩
  have m0 : (updM M0 pm (.lst ((List.range g.n).map fun _ => D.dat (.bool false)))) pm = some (.lst (bD g.n fun _ => false)) := updM_same
  generalize updM M0 pm (.lst ((List.range g.n).map fun _ => D.dat (.bool false))) = M1 at m0 ⊢
  refine seq_mid (fun δ M => δ = [some (.dat (encG g)), some (.ref pm), none, none, none, none, none, none, none, none, none, none, none, none, none, none] ∧ M = M1) (fun K hK => hK _ _ ⟨rfl, rfl⟩) ?_
  rintro δ M ⟨rfl, rfl⟩
  refine seq_mid (fun δ M => ∃ (mk : BF) (o2 o3 o4 o5 : Option D), MkOk g mk ∧ M pm = some (.lst (bD g.n mk)) ∧ δ = [some (.dat (encG g)), some (.ref pm), o2, o3, o4, o5, none, none, none, none, none, none, none, none, none, none]) (fun K hK => ?_) ?_
  · refine ⟨_, _, rfl, rfl, ⟨by omega, by omega⟩, goFor_up g.n (fun i δ M => ∃ (mk : BF) (o2 o3 o4 o5 : Option D), MkOk g mk ∧ M pm = some (.lst (bD g.n mk)) ∧ δ = [some (.dat (encG g)), some (.ref pm), o2, o3, o4, o5, none, none, none, none, none, none, none, none, none, none]) ?_ ?_ ⟨_, none, none, none, none, fun i hi => (by cases hi), m0, rfl⟩⟩
    · exact fun δ M h => ⟨trivial, hK _ _ h⟩
    · rintro i δ M K2 hi ⟨mk, o2, o3, o4, o5, mo, hM, rfl⟩ hK2
      refine ⟨trivial, _, _, rfl, rfl, _, rfl, goFor_ind (fun r => D.dat (encR r)) (fun l δ M => (∀ r ∈ l, r ∈ g.rules) ∧ ∃ (mk : BF) (o3 o4 o5 : Option D), MkOk g mk ∧ M pm = some (.lst (bD g.n mk)) ∧ δ = [some (.dat (encG g)), some (.ref pm), some (.dat (encN i)), o3, o4, o5, none, none, none, none, none, none, none, none, none, none]) ?_ ?_ g.rules (map_dat _ _) ⟨fun _ h => h, mk, o3, o4, o5, mo, hM, rfl⟩⟩
      · rintro δ M ⟨_, mk, o3, o4, o5, mo, hM, rfl⟩
        exact ⟨by show some _ = some _; rw [List.map_map], hK2 _ _ ⟨mk, _, _, _, _, mo, hM, rfl⟩⟩
      · rintro r l δ M K3 ⟨hlr, mk, o3, o4, o5, mo, hM, rfl⟩ hK3
        have hr := hlr r List.mem_cons_self
        have rf := fr.rf r hr
        have hpl := rf.few
        have hlr' : ∀ r ∈ l, r ∈ g.rules := fun x hx => hlr x (List.mem_cons_of_mem _ hx)
        refine ⟨by show some _ = some _; rw [List.map_map], rfl, rfl, ?_⟩
        refine ⟨_, rfl, by rw [List.length_map, List.length_map]; omega, lc_dat r.parts encN (fun p => .bool (mk p)) rfl (fun p hp K k => ⟨_, _, seq_ref hM, bD_at (rf.parts p hp), k⟩) ⟨r.parts.map mk, by rw [List.map_map]; rfl, ?_⟩⟩
        rw [all_map]
        refine if_b (fun e => ?_) fun e => ?_
        · refine ⟨_, _, hM, ixN_nat (by rw [bD_len]; exact rf.res), hK3 _ _ ⟨hlr', updB mk r.res true, _, _, _, mo.put hr rf.res (fun p hp => List.all_eq_true.mp e p hp), ?_, rfl⟩⟩
          rw [updM_same, bD_set]
        · exact hK3 _ _ ⟨hlr', mk, _, _, _, mo, hM, rfl⟩
  clear m0
  rintro δ M1 ⟨mk, o2, o3, o4, o5, mo, hM, rfl⟩
  refine seq_mid (fun δ M => M = M1 ∧ δ = [some (.dat (encG g)), some (.ref pm), o2, o3, o4, o5, none, some (.dat (.list ((goodR mk g.rules).map encR))), none, none, none, none, none, none, none, none]) (fun K hK => ?_) ?_
  · refine ⟨_, _, rfl, rfl, _, rfl, by rw [List.length_map, List.length_map]; omega, lc_filt (fun r => D.dat (encR r)) (fun r => D.dat (encR r)) (fun r => r.parts.all mk) g.rules (map_dat _ _) rfl (fun r hr K k => ?_) (fun r hr _ K k => k) (finL_map encR _ (hK _ _ ⟨rfl, rfl⟩))⟩
    have rf := fr.rf r hr
    have hpl := rf.few
    refine ⟨_, _, rfl, rfl, _, rfl, by rw [List.length_map, List.length_map]; omega, lc_dat r.parts encN (fun p => .bool (mk p)) rfl (fun p hp K k => ⟨_, _, seq_ref hM, bD_at (rf.parts p hp), k⟩) ⟨r.parts.map mk, by rw [List.map_map]; rfl, ?_⟩⟩
    rw [all_map]
    exact k
  rintro δ M ⟨rfl, rfl⟩
  have hgl : (goodR mk g.rules).length ≤ g.rules.length := List.length_filter_le _ _
  refine seq_mid (fun δ M => ∃ (ps : Addr), M ps = some (.lst (bD g.n fun i => mk i && decide (i ∈ g.starts))) ∧ δ = [some (.dat (encG g)), some (.ref pm), o2, o3, o4, o5, none, some (.dat (.list ((goodR mk g.rules).map encR))), some (.ref ps), none, none, none, none, none, none, none]) (fun K hK => ?_) ?_
  · refine ⟨_, _, rfl, rfl, ⟨by omega, by omega⟩, by rw [upTo_len]; omega, lc_map (List.range g.n) (fun k => D.dat (encN k)) (fun i => .dat (.bool (mk i && decide (i ∈ g.starts)))) (range_items g.n) trivial (fun i hi K kk => ?_) fun ps hps => hK _ _ ⟨ps, updM_same, rfl⟩⟩
    have hi' := List.mem_range.mp hi
    refine ⟨_, _, seq_ref hM, bD_at hi', ?_⟩
    refine if_b (fun e => ?_) fun e => ?_
    · rw [e, Bool.true_and] at kk
      refine ⟨_, _, rfl, rfl, g.starts.map fun s => ((s : Nat) : Int), encL_ints _, ?_⟩
      rw [in_ints]
      exact kk
    · rw [e, Bool.false_and] at kk
      exact kk
  clear hM
  rintro δ M ⟨ps, hM, rfl⟩
  have hgood : ∀ r ∈ goodR mk g.rules, r.res < g.n ∧ ∀ p ∈ r.parts, p < g.n := fun r hr => by
    have rf := fr.rf r (goodR_mem.mp hr).1
    exact ⟨rf.res, rf.parts⟩
  refine seq_mid (fun δ M => ∃ (o2 o3 o4 o5 o6 : Option D), M ps = some (.lst (bD g.n (iter (sRound (goodR mk g.rules)) g.n fun i => mk i && decide (i ∈ g.starts)))) ∧ δ = [some (.dat (encG g)), some (.ref pm), o2, o3, o4, o5, o6, some (.dat (.list ((goodR mk g.rules).map encR))), some (.ref ps), none, none, none, none, none, none, none]) (fun K hK => ?_) ?_
  · refine ⟨_, _, rfl, rfl, ⟨by omega, by omega⟩, goFor_up g.n (fun i δ M => ∃ (o2 o3 o4 o5 o6 : Option D), M ps = some (.lst (bD g.n (iter (sRound (goodR mk g.rules)) i fun i => mk i && decide (i ∈ g.starts)))) ∧ δ = [some (.dat (encG g)), some (.ref pm), o2, o3, o4, o5, o6, some (.dat (.list ((goodR mk g.rules).map encR))), some (.ref ps), none, none, none, none, none, none, none]) ?_ ?_ ⟨o2, o3, o4, o5, none, hM, rfl⟩⟩
    · exact fun δ M h => ⟨trivial, hK _ _ h⟩
    · rintro i δ M K2 hi ⟨o2, o3, o4, o5, o6, hM, rfl⟩ hK2
      have estep : iter (sRound (goodR mk g.rules)) (i + 1) (fun i => mk i && decide (i ∈ g.starts)) = sRound (goodR mk g.rules) (iter (sRound (goodR mk g.rules)) i fun i => mk i && decide (i ∈ g.starts)) := rfl
      generalize iter (sRound (goodR mk g.rules)) i (fun i => mk i && decide (i ∈ g.starts)) = st0 at hM estep
      refine ⟨trivial, _, rfl, goFor_ind (fun r => D.dat (encR r)) (fun l δ M => (∀ r ∈ l, r ∈ goodR mk g.rules) ∧ ∃ (st : BF) (o3 o4 o5 o6 : Option D), l.foldl rStep st = sRound (goodR mk g.rules) st0 ∧ M ps = some (.lst (bD g.n st)) ∧ δ = [some (.dat (encG g)), some (.ref pm), some (.dat (encN i)), o3, o4, o5, o6, some (.dat (.list ((goodR mk g.rules).map encR))), some (.ref ps), none, none, none, none, none, none, none]) ?_ ?_ (goodR mk g.rules) (map_dat _ _) ⟨fun _ h => h, st0, o3, o4, o5, o6, rfl, hM, rfl⟩⟩
      · rintro δ M ⟨_, st, o3, o4, o5, o6, e, hM, rfl⟩
        refine ⟨by show some _ = some _; rw [List.map_map], hK2 _ _ ⟨_, _, _, _, _, ?_, rfl⟩⟩
        rw [estep, ← e]; exact hM
      · rintro r l δ M K3 ⟨hlr, st, o3, o4, o5, o6, e, hM, rfl⟩ hK3
        have hr := hlr r List.mem_cons_self
        obtain ⟨hres, hparts⟩ := hgood r hr
        refine ⟨by show some _ = some _; rw [List.map_map], rfl, rfl, _, rfl, goFor_ind nD (fun l2 δ M => (∀ p ∈ l2, p ∈ r.parts) ∧ ∃ (st2 : BF) (o6 : Option D), l2.foldl (pStep r) st2 = rStep st r ∧ M ps = some (.lst (bD g.n st2)) ∧ δ = [some (.dat (encG g)), some (.ref pm), some (.dat (encN i)), some (.dat (encN r.res)), some (.dat (.str r.word)), some (.dat (encL r.parts)), o6, some (.dat (.list ((goodR mk g.rules).map encR))), some (.ref ps), none, none, none, none, none, none, none]) ?_ ?_ r.parts (map_dat _ _) ⟨fun _ h => h, st, o6, rfl, hM, rfl⟩⟩
        · rintro δ M ⟨_, st2, o6, e2, hM, rfl⟩
          refine ⟨by show some _ = some _; rw [List.map_map], hK3 _ _ ⟨fun x hx => hlr x (List.mem_cons_of_mem _ hx), st2, _, _, _, _, ?_, hM, rfl⟩⟩
          rw [show st2 = rStep st r from e2]
          exact e
        · rintro p l2 δ M K4 ⟨hp2, st2, o6, e2, hM, rfl⟩ hK4
          have hp := hparts p (hp2 p List.mem_cons_self)
          have hdone : K4 [some (.dat (encG g)), some (.ref pm), some (.dat (encN i)), some (.dat (encN r.res)), some (.dat (.str r.word)), some (.dat (encL r.parts)), some (nD p), some (.dat (.list ((goodR mk g.rules).map encR))), some (.ref ps), none, none, none, none, none, none, none] (updM M ps (.lst ((bD g.n st2).set p (.dat (.bool (st2 p || st2 r.res)))))) := by
            refine hK4 _ _ ⟨fun x hx => hp2 x (List.mem_cons_of_mem _ hx), pStep r st2 p, _, e2, ?_, rfl⟩
            rw [updM_same, bD_set]; rfl
          refine ⟨by show some _ = some _; rw [List.map_map], _, _, seq_ref hM, bD_at hp, ?_⟩
          refine if_b (fun e => ?_) fun e => ?_
          · rw [e, Bool.true_or] at hdone
            exact ⟨_, _, hM, ixN_nat (by rw [bD_len]; exact hp), hdone⟩
          · rw [e, Bool.false_or] at hdone
            exact ⟨_, _, seq_ref hM, bD_at hres, _, _, hM, ixN_nat (by rw [bD_len]; exact hp), hdone⟩
  clear hM
  have so : StOk g mk (iter (sRound (goodR mk g.rules)) g.n fun i => mk i && decide (i ∈ g.starts)) := by
    refine StOk.iter ⟨fun i hi => (Bool.and_eq_true_iff.mp hi).1, fun ⟨i, hi⟩ => ⟨i, of_decide_eq_true (Bool.and_eq_true_iff.mp hi).2, hi⟩⟩ (fun r hr => (goodR_mem.mp hr).2) _
  have hc := rounds_end (st := fun i => mk i && decide (i ∈ g.starts)) hgood
  generalize iter (sRound (goodR mk g.rules)) g.n (fun i => mk i && decide (i ∈ g.starts)) = st at so hc
  rintro δ M1 ⟨o2, o3, o4, o5, o6, hM, rfl⟩
  have hkl : ((List.range g.n).filter st).length ≤ g.n := cnt_le
  refine seq_mid (fun δ M => M = M1 ∧ δ = [some (.dat (encG g)), some (.ref pm), o2, o3, o4, o5, o6, some (.dat (.list ((goodR mk g.rules).map encR))), some (.ref ps), some (.dat (.list (((List.range g.n).filter st).map encN))), none, none, none, none, none, none]) (fun K hK => ?_) ?_
  · exact ⟨_, _, rfl, rfl, ⟨by omega, by omega⟩, by rw [upTo_len]; omega, lc_filt (fun k => D.dat (encN k)) (fun k => D.dat (encN k)) st (List.range g.n) (range_items g.n) trivial (fun i hi K k => ⟨_, _, seq_ref hM, bD_at (List.mem_range.mp hi), k⟩) (fun i hi _ K k => k) (finL_map encN _ (hK _ _ ⟨rfl, rfl⟩))⟩
  rintro δ M ⟨rfl, rfl⟩
  have e0 : ((((List.range g.n).filter st).map encN).map D.dat).length = ((List.range g.n).filter st).length := by rw [List.length_map, List.length_map]
  refine ⟨_, rfl, ?_⟩
  rw [e0]
  refine if_b (fun e => ?_) fun e => ?_
  · exact ⟨ok16 rfl, ok16 rfl, ok16 rfl, ok16 rfl, ok16 rfl, ok16 rfl, ok16 rfl, _, rfl, q _ small_ok⟩
  have hkne : (List.range g.n).filter st ≠ [] := fun z => by
    rw [z] at e
    cases e
  have hknd : ((List.range g.n).filter st).Nodup := List.nodup_range.filter st
  have hkm : ∀ k (h : k < ((List.range g.n).filter st).length), ((List.range g.n).filter st)[k] < g.n := fun k h => List.mem_range.mp (List.mem_filter.mp (List.getElem_mem h)).1
  refine seq_mid (fun δ M' => M' = M ∧ δ = [some (.dat (encG g)), some (.ref pm), o2, o3, o4, o5, o6, some (.dat (.list ((goodR mk g.rules).map encR))), some (.ref ps), some (.dat (.list (((List.range g.n).filter st).map encN))), none, none, none, none, none, none]) (fun K hK => hK _ _ ⟨rfl, rfl⟩) ?_
  rintro δ M' ⟨rfl, rfl⟩
  refine seq_mid (fun δ M => ∃ pn, pn ≠ ps ∧ M ps = some (.lst (bD g.n st)) ∧ M pn = some (.lst (iD g.n fun _ => -1)) ∧ δ = [some (.dat (encG g)), some (.ref pm), o2, o3, o4, o5, o6, some (.dat (.list ((goodR mk g.rules).map encR))), some (.ref ps), some (.dat (.list (((List.range g.n).filter st).map encN))), some (.ref pn), none, none, none, none, none]) (fun K hK => ?_) ?_
  · refine ⟨_, _, rfl, rfl, ⟨by omega, by omega⟩, by rw [upTo_len]; omega, lc_map (List.range g.n) (fun k => D.dat (encN k)) (fun _ => .dat (.int (-1))) (range_items g.n) trivial (fun k hk K kk => kk) fun pn hpn => ?_⟩
    have ne : pn ≠ ps := ne_fresh hpn (by rw [hM]; rfl)
    exact hK _ _ ⟨pn, ne, by rw [updM_ne ne.symm]; exact hM, updM_same, rfl⟩
  clear hM
  rintro δ M ⟨pn, ne, hM, hN, rfl⟩
  refine seq_mid (fun δ M => ∃ (nu : Nat → Int) (o11 : Option D), M ps = some (.lst (bD g.n st)) ∧ M pn = some (.lst (iD g.n nu)) ∧ (∀ j (h : j < ((List.range g.n).filter st).length), nu ((List.range g.n).filter st)[j] = (j : Nat)) ∧ δ = [some (.dat (encG g)), some (.ref pm), o2, o3, o4, o5, o6, some (.dat (.list ((goodR mk g.rules).map encR))), some (.ref ps), some (.dat (.list (((List.range g.n).filter st).map encN))), some (.ref pn), o11, none, none, none, none]) (fun K hK => ?_) ?_
  · refine ⟨_, rfl, ?_⟩
    rw [e0]
    refine ⟨⟨by omega, by omega⟩, goFor_up ((List.range g.n).filter st).length (fun k δ M => ∃ (nu : Nat → Int) (o11 : Option D), M ps = some (.lst (bD g.n st)) ∧ M pn = some (.lst (iD g.n nu)) ∧ (∀ j (h : j < ((List.range g.n).filter st).length), j < k → nu ((List.range g.n).filter st)[j] = (j : Nat)) ∧ δ = [some (.dat (encG g)), some (.ref pm), o2, o3, o4, o5, o6, some (.dat (.list ((goodR mk g.rules).map encR))), some (.ref ps), some (.dat (.list (((List.range g.n).filter st).map encN))), some (.ref pn), o11, none, none, none, none]) ?_ ?_ ⟨_, none, hM, hN, fun j _ h => absurd h (by omega), rfl⟩⟩
    · rintro δ M ⟨nu, o11, h1, h2, h3, rfl⟩
      exact ⟨trivial, hK _ _ ⟨nu, o11, h1, h2, fun j h => h3 j h h, rfl⟩⟩
    · rintro k δ M K2 hk ⟨nu, o11, h1, h2, h3, rfl⟩ hK2
      refine ⟨trivial, _, _, rfl, atI_map (List.getElem?_eq_getElem hk), _, _, h2, ixN_nat (by show _ < (tal _ _).length; rw [tal_len]; exact hkm k hk), hK2 _ _ ⟨fun j => if j = ((List.range g.n).filter st)[k] then ((k : Nat) : Int) else nu j, _, ?_, ?_, fun j hj hjk => ?_, rfl⟩⟩
      · rw [updM_ne ne.symm]; exact h1
      · rw [updM_same, iD_set]
      · by_cases z : ((List.range g.n).filter st)[j] = ((List.range g.n).filter st)[k]
        · have := nodup_ix hknd (List.getElem?_eq_getElem hj) (by rw [z]; exact List.getElem?_eq_getElem hk)
          subst this
          exact if_pos rfl
        · show (if _ = _ then _ else _) = _
          rw [if_neg z]
          exact h3 j hj (by
            rcases Nat.lt_or_ge j k with y | y
            · exact y
            · have : j = k := by omega
              subst this
              exact absurd rfl z)
  clear hM hN
  rintro δ M1 ⟨nu, o11, hM, hN, hnu, rfl⟩
  -- the new names
  have hren : Ren g.n st ((List.range g.n).filter st) (fun i => (nu i).toNat) := ⟨fun i hi hs => by
    obtain ⟨j, hj⟩ := List.getElem?_of_mem (List.mem_filter.mpr ⟨List.mem_range.mpr hi, hs⟩)
    have hl := (List.getElem?_eq_some_iff.mp hj).1
    have h1 := hnu j hl
    rw [List.getElem?_eq_getElem hl] at hj
    rw [Option.some.inj hj] at h1
    rw [h1, Int.toNat_natCast, List.getElem?_eq_getElem hl, Option.some.inj hj]⟩
  have hN2 : ∀ i, i < g.n → st i = true → PyData.int (nu i) = encN (nu i).toNat := fun i hi hs => by
    obtain ⟨j, hj⟩ := List.getElem?_of_mem (List.mem_filter.mpr ⟨List.mem_range.mpr hi, hs⟩)
    have hl := (List.getElem?_eq_some_iff.mp hj).1
    have h1 := hnu j hl
    rw [List.getElem?_eq_getElem hl] at hj
    rw [Option.some.inj hj] at h1
    rw [h1]; rfl
  refine seq_mid (fun δ M => M = M1 ∧ δ = [some (.dat (encG g)), some (.ref pm), o2, o3, o4, o5, o6, some (.dat (.list ((goodR mk g.rules).map encR))), some (.ref ps), some (.dat (.list (((List.range g.n).filter st).map encN))), some (.ref pn), o11, some (.dat (.list ((((goodR mk g.rules).filter fun r => st r.res).map (renR fun i => (nu i).toNat)).map encR))), none, none, none]) (fun K hK => ?_) ?_
  · rw [List.map_map] at hK
    refine ⟨_, rfl, by rw [List.length_map, List.length_map]; omega, lc_filt (fun r => D.dat (encR r)) (fun r => D.dat (encR (renR (fun i => (nu i).toNat) r))) (fun r => st r.res) (goodR mk g.rules) (map_dat _ _) rfl (fun r hr K k => ?_) (fun r hr hs K k => ?_) (finL_map (fun r => encR (renR (fun i => (nu i).toNat) r)) _ (hK _ _ ⟨rfl, rfl⟩))⟩
    · exact ⟨_, _, rfl, rfl, _, _, seq_ref hM, bD_at (hgood r hr).1, k⟩
    · obtain ⟨hres, hparts⟩ := hgood r hr
      have rf := fr.rf r (goodR_mem.mp hr).1
      have hpl := rf.few
      refine ⟨_, _, rfl, rfl, _, _, seq_ref hN, iD_at hres, _, _, rfl, rfl, _, _, rfl, rfl, _, rfl, by rw [List.length_map, List.length_map]; omega, lc_dat r.parts encN (fun p => .int (nu p)) rfl (fun p hp K k => ⟨_, _, seq_ref hN, iD_at (hparts p hp), k⟩) ⟨_, _, rfl, datsOf_map _, ok16 rfl, ?_⟩⟩
      have e2 : r.parts.map (fun p => PyData.int (nu p)) = (r.parts.map fun i => (nu i).toNat).map encN := by
        rw [List.map_map]
        exact List.map_congr_left fun p hp => hN2 p (hparts p hp) (hc r hr hs p hp)
      rw [e2, hN2 r.res hres hs]
      exact k
  rintro δ M ⟨rfl, rfl⟩
  have hl2 : (((goodR mk g.rules).filter fun r => st r.res).map (renR fun i => (nu i).toNat)).length ≤ 1000 := by
    have := List.length_filter_le (fun r => st r.res) (goodR mk g.rules)
    rw [List.length_map]; omega
  refine ⟨_, rfl, ?_⟩
  rw [e0]
  refine ⟨_, _, rfl, rfl, _, rfl, by rw [List.length_map, List.length_map]; omega, lc_filt (fun k => D.dat (encN k)) (fun i => D.dat (encN (nu i).toNat)) st g.starts (map_dat _ _) rfl (fun i hi K k => ⟨_, _, seq_ref hM, bD_at (fr.st i hi), k⟩) (fun i hi hs K k => ⟨_, _, seq_ref hN, iD_at (fr.st i hi), by rw [hN2 i (fr.st i hi) hs]; exact k⟩) (finL_map (fun i => encN (nu i).toNat) _ ⟨_, _, rfl, datsOf_map _, ?_⟩)⟩
  refine ⟨W.AllAlike.of fun r r' => alike_R r r', W.Sortable.tuples fun r => ⟨_, _, rfl⟩, by rw [List.length_map]; omega, fun x hx => ?_, fun qs hp => ?_⟩
  · obtain ⟨r, _, rfl⟩ := List.mem_map.mp hx
    exact depth_R r
  obtain ⟨rs, rfl, hrs⟩ := map_exists (f := encR) (P := fun r => r ∈ ((goodR mk g.rules).filter fun r => st r.res).map (renR fun i => (nu i).toNat)) (l := qs) fun x hx => by
    obtain ⟨r, hr, rfl⟩ := List.mem_map.mp (hp.mem_iff.mp hx)
    exact ⟨r, hr, rfl⟩
  have hall : ∀ y ∈ ((goodR mk g.rules).filter fun r => st r.res).map (renR fun i => (nu i).toNat), y ∈ rs := fun y hy => by
    obtain ⟨y', hy', e⟩ := List.mem_map.mp (hp.mem_iff.mpr (List.mem_map_of_mem hy))
    rw [← encR_inj e]; exact hy'
  have hlen : rs.length ≤ 1000 := by
    have := hp.length_eq
    rw [List.length_map, List.length_map] at this
    omega
  have em : (g.starts.filter st).map (fun i => encN (nu i).toNat) = ((g.starts.filter st).map fun i => (nu i).toNat).map encN := by rw [List.map_map]; rfl
  have gt := trim_ok fr mo so hc hren hkne hrs hall hlen
  have hq := q _ gt
  refine ⟨_, _, rfl, datsOf_map _, ok16 rfl, _, rfl, ?_⟩
  rw [em]
  exact hq
end DL
set_option Elab.async false
set_option linter.all false
set_option maxRecDepth 100000
set_option maxHeartbeats 4000000
namespace DL
open PySem PySem.Spec PyProof.Rows L2
/-! PLn: grammars that are drawn. -/
def kP (r : Rl) : PyData := .tuple [.str r.word, encL r.parts]
def kN (r : Rl) : NestedKey := .tup [.text r.word, .tup (r.parts.map fun p => .num ((p : Nat) : Int))]
theorem nks_N : ∀ ps : List Nat, nks (ps.map encN) = some (ps.map fun p => NestedKey.num ((p : Nat) : Int))
  | [] => rfl
  | p :: ps => by
    rw [List.map_cons, nks, nks_N ps]; rfl
theorem nk_kP (r : Rl) : nk (kP r) = some (kN r) := by
  show (nks [.str r.word, encL r.parts]).map NestedKey.tup = _
  have h : nk (encL r.parts) = some (.tup (r.parts.map fun p => .num ((p : Nat) : Int))) := by
    show (nks (r.parts.map encN)).map NestedKey.tup = _
    rw [nks_N]; rfl
  rw [nks, nks, nks, h]; rfl
theorem depths_N : ∀ ps : List Nat, NestedKey.depthAll (ps.map fun p => NestedKey.num ((p : Nat) : Int)) ≤ 1
  | [] => by simp [NestedKey.depthAll]
  | p :: ps => by
    have := depths_N ps
    rw [List.map_cons, NestedKey.depthAll]
    simp [NestedKey.depth]
    omega
theorem key_ok (r : Rl) : KeyOk (kP r) (kN r) := by
  refine ⟨nk_kP r, ?_⟩
  have := depths_N r.parts
  unfold kN
  simp [NestedKey.depth, NestedKey.depthAll]
  omega
def tabF (rs : List Rl) : List (PyData × PyData) := rs.map fun r => (kP r, encN r.res)
structure ROk (n : Nat) (r : Rl) : Prop where
  sym : SymOk r.sym
  four : r.parts.length ≤ 4
  res : r.res < n
  parts : ∀ p ∈ r.parts, p < n
theorem tab_putF {n : Nat} {rs : List Rl} (h : ∀ r ∈ rs, ROk n r) {r0 : Rl} (h0 : ROk n r0) : ∃ rs' : List Rl, tabPut (tabF rs) (kN r0) (kP r0) (encN r0.res) = tabF rs' ∧ (∀ r ∈ rs', ROk n r) ∧ rs'.length ≤ rs.length + 1 := by
  unfold tabPut
  split
  · refine ⟨rs.map fun r => if nk (kP r) = some (kN r0) then ⟨r0.res, r.word, r.parts⟩ else r, ?_, fun x hx => ?_, by rw [List.length_map]; omega⟩
    · unfold tabF
      rw [List.map_map, List.map_map]
      refine List.map_congr_left fun r _ => ?_
      show (if nk (kP r) = some (kN r0) then (kP r, encN r0.res) else (kP r, encN r.res)) = (kP (if nk (kP r) = some (kN r0) then (⟨r0.res, r.word, r.parts⟩ : Rl) else r), encN (if nk (kP r) = some (kN r0) then (⟨r0.res, r.word, r.parts⟩ : Rl) else r).res)
      by_cases e : nk (kP r) = some (kN r0)
      · rw [if_pos e, if_pos e]; rfl
      · rw [if_neg e, if_neg e]
    · obtain ⟨r, hr, rfl⟩ := List.mem_map.mp hx
      have k := h r hr
      by_cases e : nk (kP r) = some (kN r0)
      · rw [if_pos e]; exact ⟨k.sym, k.four, h0.res, k.parts⟩
      · rw [if_neg e]; exact k
  · refine ⟨rs ++ [r0], ?_, fun x hx => ?_, by rw [List.length_append]; exact Nat.le_refl _⟩
    · unfold tabF
      rw [List.map_append]; rfl
    · rcases List.mem_append.mp hx with hx | hx
      · exact h x hx
      · rcases List.mem_singleton.mp hx with rfl
        exact h0
theorem tab_getF : ∀ {rs : List Rl} {r : Rl}, r ∈ rs → ∃ r1, r1 ∈ rs ∧ tabGet (tabF rs) (kN r) = some (encN r1.res)
  | x :: rs, r, h => by
    have e : tabGet (tabF (x :: rs)) (kN r) = if nk (kP x) = some (kN r) then some (encN x.res) else tabGet (tabF rs) (kN r) := rfl
    rw [e]
    by_cases z : nk (kP x) = some (kN r)
    · rw [if_pos z]; exact ⟨x, List.mem_cons_self, rfl⟩
    · rw [if_neg z]
      rcases List.mem_cons.mp h with rfl | h
      · exact absurd (nk_kP _) z
      · obtain ⟨r1, h1, h2⟩ := tab_getF h
        exact ⟨r1, List.mem_cons_of_mem _ h1, h2⟩
theorem lc_pickf {α : Type} {tt : DT} {te : DE} {i : Nat} {δw : Sd} {stay : Mp → Prop} {enc : α → D} {dec : α → PyData} {J : Nat → Mp → Prop} (hJ : ∀ k M, J k M → stay M) : ∀ (l : List α) {M : Mp} {items : List D} {Q : List D → Mp → Prop}, items = l.map enc → J l.length M →
    (∀ a ∈ l, ∀ k M (K : Bool → Mp → Prop), J (k + 1) M → (∀ b M', J k M' → K b M') → tt (δw.set i (some (enc a))) M K) → (∀ a ∈ l, ∀ M (K : DK), K (.dat (dec a)) M → te (δw.set i (some (enc a))) M K) →
    (∀ (ys : List α) M', (∀ y ∈ ys, y ∈ l) → ys.length ≤ l.length → J 0 M' → Q (ys.map fun y => .dat (dec y)) M') → goLc (dName i) tt te stay δw items M Q
  | [], M, _, Q, e, h, ht, he, q => by subst e; exact ⟨hJ _ _ h, q [] M (fun _ h => h) (Nat.le_refl _) h⟩
  | a :: l, M, _, Q, e, h, ht, he, q => by
    subst e
    refine ⟨hJ _ _ h, ht a List.mem_cons_self l.length M _ h fun b M' hM' => ?_⟩
    refine if_b (fun eb => ?_) fun eb => ?_
    · refine he a List.mem_cons_self M' _ ?_
      exact lc_pickf hJ l rfl hM' (fun b hb => ht b (List.mem_cons_of_mem _ hb)) (fun b hb => he b (List.mem_cons_of_mem _ hb)) fun ys M2 h1 h2 h3 => q (a :: ys) M2 (fun y hy => by
        rcases List.mem_cons.mp hy with rfl | hy
        · exact List.mem_cons_self
        · exact List.mem_cons_of_mem _ (h1 y hy)) (by rw [List.length_cons, List.length_cons]; omega) h3
    · exact lc_pickf hJ l rfl hM' (fun b hb => ht b (List.mem_cons_of_mem _ hb)) (fun b hb => he b (List.mem_cons_of_mem _ hb)) fun ys M2 h1 h2 h3 => q ys M2 (fun y hy => List.mem_cons_of_mem _ (h1 y hy)) (by rw [List.length_cons]; omega) h3
def sp_law_free : MSp := fun ds M Q => ∃ (a p : Addr) (t : Nat), ds = [.ref a] ∧ Tape a p t M ∧ t ≤ 10000 ∧ ∀ (g : Gr) M' t', FreeOk g → Tape a p t' M' → t' ≤ t + 1000 → Keeps a p M M' → Q (.dat (encG g)) M'
theorem len_law_free {a b c} (h : sp_law_free a b c) : a.length = 1 := by
  obtain ⟨a, p, t, rfl, _⟩ := h; rfl
def t_law_free (w : World) : DS :=
  dSeq (dAsg (dOp ixD (dLst (aCons (dC (.int 2)) (aCons (dC (.int 3)) (aCons (dC (.int 1)) (aCons (dC (.int 4)) (aCons (dC (.int 2)) (aNil))))))) (dCallM sp_law_pick (aCons (dVar 0) (aCons (dC (.int 5)) (aNil))))) (dName 1)) (dSeq (dAsg (dNewTab w) (dName 2)) (dSeq (dFor (iRange (dOp addD (dC (.int 1)) (dCallM sp_law_pick (aCons (dVar 0) (aCons (dC (.int 3)) (aNil)))))) (dName 3) (dAsg (dCallM sp_law_pick (aCons (dVar 0) (aCons (dVar 1) (aNil)))) (dSub (dVar 2) (dTup (aCons (dOp ixD (dOp ixD (dCallP sp_law_symbols aNil) (dCallM sp_law_pick (aCons (dVar 0) (aCons (dC (.int 4)) (aNil))))) (dC (.int 0))) (aCons (dTup (aNil)) (aNil)))) (setTab w)))) (dSeq (dFor (iRange (dOp addD (dC (.int 1)) (dCallM sp_law_pick (aCons (dVar 0) (aCons (dC (.int 6)) (aNil)))))) (dName 3) (dSeq (dAsg (dOp ixD (dCallP sp_law_symbols aNil) (dOp addD (dC (.int 5)) (dOp ixD (dLst (aCons (dC (.int 1)) (aCons (dC (.int 2)) (aCons (dC (.int 3)) (aCons (dC (.int 0)) (aCons (dC (.int 2)) (aCons (dC (.int 4)) (aCons (dC (.int 5)) (aCons (dC (.int 6)) (aNil)))))))))) (dCallM sp_law_pick (aCons (dVar 0) (aCons (dC (.int 8)) (aNil))))))) (dTupG 2 (gsCons (dName 4) (gsCons (dName 5) (gsNil))))) (dSeq (dAsg (dCB tupleC (aCons (dLc (iRange (dVar 5)) (dName 9) (dYes) (dCallM sp_law_pick (aCons (dVar 0) (aCons (dVar 1) (aNil)))) [9] finL) (aNil))) (dName 6)) (dAsg (dCallM sp_law_pick (aCons (dVar 0) (aCons (dVar 1) (aNil)))) (dSub (dVar 2) (dTup (aCons (dVar 4) (aCons (dVar 6) (aNil)))) (setTab w)))))) (dSeq (dAsg (dCB tupleC (aCons (dLc (iRange (dVar 1)) (dName 8) (dB (dOp ltD (dCallM sp_law_pick (aCons (dVar 0) (aCons (dC (.int 7)) (aNil)))) (dC (.int 5)))) (dVar 8) [8] finL) (aNil))) (dName 7)) (dRet (dTup (aCons (dVar 1) (aCons (dVar 7) (aCons (dCB tupleC (aCons (dCB sortedC (aCons (dLc (iSeq (dCB (listTab w) (aCons (dVar 2) (aNil)))) (dName 10) (dYes) (dTup (aCons (dGetTab w (dVar 2) (dVar 10)) (aCons (dOp ixD (dVar 10) (dC (.int 0))) (aCons (dOp ixD (dVar 10) (dC (.int 1))) (aNil))))) [10] finL) (aNil))) (aNil))) (aNil))))))))))
theorem sym_many : ∀ j, j < symsL.length → ∃ s, symsL[j]? = some s ∧ SymOk s ∧ s.2 ≤ 4 ∧ (j < 4 → s.2 = 0) := by
  intro j hj
  refine ⟨symsL[j], List.getElem?_eq_getElem hj, symsL_ok _ (List.getElem_mem hj), ?_, ?_⟩
  · have : ∀ s ∈ symsL, s.2 ≤ 4 := by
      intro s hs
      simp only [symsL, List.mem_cons, List.not_mem_nil, or_false] at hs
      rcases hs with rfl | rfl | rfl | rfl | rfl | rfl | rfl | rfl | rfl | rfl | rfl | rfl <;> decide
    exact this _ (List.getElem_mem hj)
  · intro h4
    match j, h4 with
    | 0, _ => rfl
    | 1, _ => rfl
    | 2, _ => rfl
    | 3, _ => rfl
theorem law_law_free {w : World} {a b c} (h : sp_law_free a b c) : t_law_free w { nx := fun _ M' => c (.dat .none) M', rt := c } (startD ["_law_tape", "_law_names", "_law_table", "_law_k", "_law_word", "_law_many", "_law_parts", "_law_starts", "_law_name", "_law_part", "_law_key"] a) b := by
  obtain ⟨a, p, t, rfl, T, ht, q⟩ := h
  have S0 : TS a p b (t + 1000) t b := ⟨T, by omega, .refl⟩
  refine ⟨ok16 rfl, a, p, _, 5, rfl, T, by omega, by decide, by decide, fun i M1 hi k1 e1 => ?_⟩
  have S1 := S0.next (by omega) k1 e1
  obtain ⟨n, hn1, hn4, en⟩ : ∃ n : Nat, 1 ≤ n ∧ n ≤ 4 ∧ ([2, 3, 1, 4, 2] : List Int).getD i 0 = ((n : Nat) : Int) := by
    match i, hi with
    | 0, _ => exact ⟨2, by decide, by decide, rfl⟩
    | 1, _ => exact ⟨3, by decide, by decide, rfl⟩
    | 2, _ => exact ⟨1, by decide, by decide, rfl⟩
    | 3, _ => exact ⟨4, by decide, by decide, rfl⟩
    | 4, _ => exact ⟨2, by decide, by decide, rfl⟩
  refine ⟨_, _, rfl, atI_ints (ns := [2, 3, 1, 4, 2]) hi, ?_⟩
  rw [en]
  clear hi en
  refine fun pt hpt => ?_
  have Ts := S1.1.some
  have ta : pt ≠ a := ne_fresh hpt Ts.1
  have tp : pt ≠ p := ne_fresh hpt Ts.2
  have bt : b pt = none := S1.2.2.fresh hpt ta tp
  have S2 : TS a p b (t + 1000) (t + 1) (updM M1 pt (.tab w [])) := ⟨S1.1.new hpt, S1.2.1, S1.2.2.trans (.new hpt)⟩
  have T2 : (updM M1 pt (.tab w [])) pt = some (.tab w (tabF [])) := updM_same
  generalize updM M1 pt (.tab w []) = M2 at S2 T2 ⊢
  have put : ∀ {M : Mp} {t' : Nat} {rs : List Rl}, TS a p b (t + 1000) t' M → TS a p b (t + 1000) t' (updM M pt (.tab w (tabF rs))) := fun S => ⟨S.1.put tp ta, S.2.1, S.2.2.put bt⟩
  refine seq_mid (fun δ M => M = M2 ∧ δ = [some (.ref a), some (.dat (encN n)), some (.ref pt), none, none, none, none, none, none, none, none]) (fun K hK => hK _ _ ⟨rfl, rfl⟩) ?_
  rintro δ M ⟨rfl, rfl⟩
  refine seq_mid (fun δ M => ∃ (rs : List Rl) (t' : Nat) (o3 : Option D), t' ≤ t + 20 ∧ rs.length ≤ 10 ∧ (∀ r ∈ rs, ROk n r) ∧ TS a p b (t + 1000) t' M ∧ M pt = some (.tab w (tabF rs)) ∧ δ = [some (.ref a), some (.dat (encN n)), some (.ref pt), o3, none, none, none, none, none, none, none]) (fun K hK => ?_) ?_
  · refine ⟨a, p, _, 3, rfl, S2.1, by omega, by decide, by decide, fun i M3 hi k3 e3 => ?_⟩
    have S3 := S2.next (by omega) k3 e3
    have T3 : M3 pt = some (.tab w (tabF [])) := by rw [e3 _ ta tp]; exact T2
    refine ⟨⟨by omega, by omega⟩, goFor_up (1 + i) (fun k δ M => ∃ (rs : List Rl) (t' : Nat) (o3 : Option D), t' = t + 2 + 2 * k ∧ rs.length ≤ k ∧ (∀ r ∈ rs, ROk n r) ∧ TS a p b (t + 1000) t' M ∧ M pt = some (.tab w (tabF rs)) ∧ δ = [some (.ref a), some (.dat (encN n)), some (.ref pt), o3, none, none, none, none, none, none, none]) ?_ ?_ ⟨[], t + 2, none, rfl, Nat.le_refl _, fun _ h => (by cases h), S3, T3, rfl⟩⟩
    · rintro δ M ⟨rs, t', o3, et, hl, hr, S, hM, rfl⟩
      exact ⟨trivial, hK _ _ ⟨rs, t', o3, by omega, by omega, hr, S, hM, rfl⟩⟩
    · rintro k δ M K2 hk ⟨rs, t', o3, et, hl, hr, S, hM, rfl⟩ hK2
      refine ⟨trivial, a, p, _, n, rfl, S.1, by omega, by omega, by omega, fun v M4 hv k4 e4 => ?_⟩
      have S4 := S.next (by omega) k4 e4
      refine ⟨_, rfl, rfl, a, p, _, 4, rfl, S4.1, by omega, by decide, by decide, fun j M5 hj k5 e5 => ?_⟩
      have S5 := S4.next (by omega) k5 e5
      have hM5 : M5 pt = some (.tab w (tabF rs)) := by rw [e5 _ ta tp, e4 _ ta tp]; exact hM
      obtain ⟨s, es, so, _, s0⟩ := sym_many j (by show j < 12; omega)
      have h0 : ROk n ⟨v, s.1, []⟩ := ⟨by
        have : (⟨v, s.1, []⟩ : Rl).sym = s := Prod.ext rfl (s0 hj).symm
        rw [this]; exact so, by show 0 ≤ 4; omega, hv, fun p hp => by cases hp⟩
      obtain ⟨rs', e1, h1, h2⟩ := tab_putF hr h0
      refine ⟨_, _, rfl, atI_map es, _, _, rfl, rfl, ok16 rfl, ok16 rfl, _, kN ⟨v, s.1, []⟩, hM5, key_ok ⟨v, s.1, []⟩, by unfold tabF; rw [List.length_map]; omega, ?_⟩
      have z := hK2 [some (.ref a), some (.dat (encN n)), some (.ref pt), some (nD k), none, none, none, none, none, none, none] _ ⟨rs', _, _, (show t' + 1 + 1 = t + 2 + 2 * (k + 1) by omega), (show rs'.length ≤ k + 1 by omega), h1, put (rs := rs') S5, updM_same, rfl⟩
      rw [← e1] at z; exact z
  clear S2 T2 S1
  rintro δ M1 ⟨rs, t1, o3, ht1, hl, hr, S, hM, rfl⟩
  refine seq_mid (fun δ M => ∃ (rs : List Rl) (t' : Nat) (o3 o4 o5 o6 : Option D), t' ≤ t + 100 ∧ rs.length ≤ 30 ∧ (∀ r ∈ rs, ROk n r) ∧ TS a p b (t + 1000) t' M ∧ M pt = some (.tab w (tabF rs)) ∧ δ = [some (.ref a), some (.dat (encN n)), some (.ref pt), o3, o4, o5, o6, none, none, none, none]) (fun K hK => ?_) ?_
  · refine ⟨a, p, _, 6, rfl, S.1, by omega, by decide, by decide, fun i M3 hi k3 e3 => ?_⟩
    have S3 := S.next (by omega) k3 e3
    have T3 : M3 pt = some (.tab w (tabF rs)) := by rw [e3 _ ta tp]; exact hM
    refine ⟨⟨by omega, by omega⟩, goFor_up (1 + i) (fun k δ M => ∃ (rs : List Rl) (t' : Nat) (o3 o4 o5 o6 : Option D), t' ≤ t + 21 + 10 * k ∧ rs.length ≤ 10 + k ∧ (∀ r ∈ rs, ROk n r) ∧ TS a p b (t + 1000) t' M ∧ M pt = some (.tab w (tabF rs)) ∧ δ = [some (.ref a), some (.dat (encN n)), some (.ref pt), o3, o4, o5, o6, none, none, none, none]) ?_ ?_ ⟨rs, _, o3, none, none, none, by omega, by omega, hr, S3, T3, rfl⟩⟩
    · rintro δ M ⟨rs, t', o3, o4, o5, o6, et, hl, hr, S, hM, rfl⟩
      exact ⟨trivial, hK _ _ ⟨rs, t', o3, o4, o5, o6, by omega, by omega, hr, S, hM, rfl⟩⟩
    · rintro k δ M K2 hk ⟨rs, t', o3, o4, o5, o6, et, hl, hr, S, hM, rfl⟩ hK2
      refine ⟨trivial, ?_⟩
      refine seq_mid (fun δ M' => ∃ s : Sym, SymOk s ∧ s.2 ≤ 4 ∧ TS a p b (t + 1000) (t' + 1) M' ∧ M' pt = some (.tab w (tabF rs)) ∧ δ = [some (.ref a), some (.dat (encN n)), some (.ref pt), some (nD k), some (.dat (.str s.1)), some (.dat (encN s.2)), o6, none, none, none, none]) (fun K hK => ?_) ?_
      · refine ⟨_, rfl, rfl, ok16 rfl, a, p, _, 8, rfl, S.1, by omega, by decide, by decide, fun j M5 hj k5 e5 => ?_⟩
        have S5 := S.next (by omega) k5 e5
        obtain ⟨y, hy, ey⟩ : ∃ y : Nat, y ≤ 6 ∧ ([1, 2, 3, 0, 2, 4, 5, 6] : List Int).getD j 0 = ((y : Nat) : Int) := by
          match j, hj with
          | 0, _ => exact ⟨1, by decide, rfl⟩
          | 1, _ => exact ⟨2, by decide, rfl⟩
          | 2, _ => exact ⟨3, by decide, rfl⟩
          | 3, _ => exact ⟨0, by decide, rfl⟩
          | 4, _ => exact ⟨2, by decide, rfl⟩
          | 5, _ => exact ⟨4, by decide, rfl⟩
          | 6, _ => exact ⟨5, by decide, rfl⟩
          | 7, _ => exact ⟨6, by decide, rfl⟩
        obtain ⟨s, es, so, s4, _⟩ := sym_many (5 + y) (by show 5 + y < 12; omega)
        refine ⟨_, _, rfl, atI_ints (ns := [1, 2, 3, 0, 2, 4, 5, 6]) hj, ?_⟩
        rw [ey]
        have e7 := atI_map (f := encS) es
        rw [show ((5 + y : Nat) : Int) = 5 + ((y : Nat) : Int) by omega] at e7
        exact ⟨_, _, rfl, e7, rfl, rfl, hK _ _ ⟨s, so, s4, S5, by rw [e5 _ ta tp]; exact hM, rfl⟩⟩
      rintro δ M5 ⟨s, so, s4, S5, hM5, rfl⟩
      have rn : (List.range s.2).length = s.2 := List.length_range
      refine seq_mid (fun δ M' => ∃ (ps : List Nat) (t2 : Nat), ps.length = s.2 ∧ (∀ x ∈ ps, x < n) ∧ t2 ≤ t' + 5 ∧ TS a p b (t + 1000) t2 M' ∧ M' pt = some (.tab w (tabF rs)) ∧ δ = [some (.ref a), some (.dat (encN n)), some (.ref pt), some (nD k), some (.dat (.str s.1)), some (.dat (encN s.2)), some (.dat (encL ps)), none, none, none, none]) (fun K hK => ?_) ?_
      · refine ⟨⟨by omega, by omega⟩, by rw [upTo_len]; omega, lc_tape (β := Nat) (dec := encN) (P := fun x => x < n) (J := fun k M => ∃ t2, t2 + k = t' + 1 + s.2 ∧ TS a p b (t + 1000) t2 M ∧ M pt = some (.tab w (tabF rs))) (fun _ _ _ => trivial) (List.range s.2) (range_items _) ⟨t' + 1, by rw [rn], S5, hM5⟩ (fun i hi k M K ⟨t2, et2, S6, hM6⟩ hK => ?_) fun ps M7 hps hpn ⟨t2, et2, S7, hM7⟩ => ?_⟩
        · refine ⟨a, p, _, n, rfl, S6.1, by omega, by omega, by omega, fun v M8 hv k8 e8 => ?_⟩
          exact hK v M8 hv ⟨_, by omega, S6.next (by omega) k8 e8, by rw [e8 _ ta tp]; exact hM6⟩
        · rw [rn] at hps
          exact finL_map encN ps ⟨_, _, rfl, datsOf_map _, hK _ _ ⟨ps, t2, hps, hpn, by omega, S7, hM7, rfl⟩⟩
      rintro δ M7 ⟨ps, t2, hps, hpn, ht2, S7, hM7, rfl⟩
      refine ⟨a, p, _, n, rfl, S7.1, by omega, by omega, by omega, fun v M8 hv k8 e8 => ?_⟩
      have S8 := S7.next (by omega) k8 e8
      have hM8 : M8 pt = some (.tab w (tabF rs)) := by rw [e8 _ ta tp]; exact hM7
      have h0 : ROk n ⟨v, s.1, ps⟩ := ⟨by
        have : (⟨v, s.1, ps⟩ : Rl).sym = s := Prod.ext rfl hps
        rw [this]; exact so, by show ps.length ≤ 4; omega, hv, hpn⟩
      obtain ⟨rs', e1, h1, h2⟩ := tab_putF hr h0
      refine ⟨ok16 rfl, _, kN ⟨v, s.1, ps⟩, hM8, key_ok ⟨v, s.1, ps⟩, by unfold tabF; rw [List.length_map]; omega, ?_⟩
      have z := hK2 [some (.ref a), some (.dat (encN n)), some (.ref pt), some (nD k), some (.dat (.str s.1)), some (.dat (encN s.2)), some (.dat (encL ps)), none, none, none, none] _ ⟨rs', _, _, _, _, _, (show t2 + 1 ≤ t + 21 + 10 * (k + 1) by omega), (show rs'.length ≤ 10 + (k + 1) by omega), h1, put (rs := rs') S8, updM_same, rfl⟩
      rw [← e1] at z; exact z
  clear S hM hr hl
  rintro δ M2 ⟨rs, t2, o3, o4, o5, o6, ht2, hl, hr, S, hM, rfl⟩
  have rn : (List.range n).length = n := List.length_range
  refine seq_mid (fun δ M' => ∃ (ss : List Nat) (t3 : Nat), ss.length ≤ n ∧ (∀ x ∈ ss, x < n) ∧ t3 ≤ t + 200 ∧ TS a p b (t + 1000) t3 M' ∧ M' pt = some (.tab w (tabF rs)) ∧ δ = [some (.ref a), some (.dat (encN n)), some (.ref pt), o3, o4, o5, o6, some (.dat (encL ss)), none, none, none]) (fun K hK => ?_) ?_
  · refine ⟨⟨by omega, by omega⟩, by rw [upTo_len]; omega, lc_pickf (dec := encN) (J := fun k M => ∃ t3, t3 + k = t2 + n ∧ TS a p b (t + 1000) t3 M ∧ M pt = some (.tab w (tabF rs))) (fun _ _ _ => trivial) (List.range n) (range_items _) ⟨t2, by rw [rn], S, hM⟩ (fun i hi k M K ⟨t3, et3, S6, hM6⟩ hK => ?_) (fun i hi M K k => k) fun ss M7 hss hsl ⟨t3, et3, S7, hM7⟩ => ?_⟩
    · refine ⟨a, p, _, 7, rfl, S6.1, by omega, by decide, by decide, fun v M8 hv k8 e8 => ?_⟩
      exact hK _ M8 ⟨_, by omega, S6.next (by omega) k8 e8, by rw [e8 _ ta tp]; exact hM6⟩
    · rw [rn] at hsl
      exact finL_map encN ss ⟨_, _, rfl, datsOf_map _, hK _ _ ⟨ss, t3, hsl, fun x hx => List.mem_range.mp (hss x hx), by omega, S7, hM7, rfl⟩⟩
  clear S hM
  rintro δ M3 ⟨ss, t3, hsl, hss, ht3, S, hM, rfl⟩
  refine ⟨_, hM, by unfold tabF; rw [List.length_map]; omega, _, rfl, by unfold tabF; rw [List.length_map, List.length_map, List.length_map]; omega, lc_tape (β := Rl) (enc := fun r => D.dat (kP r)) (dec := encR) (P := ROk n) (J := fun k M => M = M3) (fun k M e => rfl) rs ?_ rfl (fun r hr2 k M K e hK => ?_) fun rs' M4 hl4 hr4 e => ?_⟩
  · unfold tabF
    rw [List.map_map, List.map_map]; rfl
  · subst e
    obtain ⟨r1, hr1, hg⟩ := tab_getF hr2
    have k := hr r hr2
    refine ⟨_, kN r, _, hM, key_ok r, hg, _, _, rfl, rfl, _, _, rfl, rfl, ok16 rfl, ?_⟩
    exact hK ⟨r1.res, r.word, r.parts⟩ M ⟨k.sym, k.four, (hr r1 hr1).res, k.parts⟩ rfl
  subst e
  refine finL_map encR rs' ⟨W.AllAlike.of fun r r' => alike_R r r', W.Sortable.tuples fun r => ⟨_, _, rfl⟩, by rw [List.length_map]; omega, fun x hx => ?_, fun qs hp => ?_⟩
  · obtain ⟨r, _, rfl⟩ := List.mem_map.mp hx
    exact depth_R r
  obtain ⟨rs2, rfl, hrs2⟩ := map_exists (f := encR) (P := ROk n) (l := qs) fun x hx => by
    obtain ⟨r, hr, rfl⟩ := List.mem_map.mp (hp.mem_iff.mp hx)
    exact ⟨r, hr4 r hr, rfl⟩
  have hlen : rs2.length ≤ 1000 := by
    have := hp.length_eq
    rw [List.length_map, List.length_map] at this
    omega
  refine ⟨_, _, rfl, datsOf_map _, ok16 rfl, q ⟨n, ss, rs2⟩ _ t3 ⟨hn4, fun r hr => ?_, fun r hr => (hrs2 r hr).four, fun r hr => (hrs2 r hr).sym, hlen, hss, ?_⟩ S.1 (by omega) S.2.2⟩
  · have k := hrs2 r hr
    exact ⟨k.sym.str, by have := k.four; omega, k.res, k.parts⟩
  · show ss.length ≤ 1000
    omega
end DL
set_option Elab.async false
set_option linter.all false
set_option maxRecDepth 100000
set_option maxHeartbeats 4000000
namespace DL
open PySem PySem.Spec PyProof.Rows L2
/-! PLo: the law itself. -/
theorem seq_frz {M : Mp} {a : Addr} {ds : List D} (h : M a = some (.frz ds)) : seqOf M (.ref a) = some ds := by
  unfold seqOf; dsimp only; rw [h]
theorem cutL_map {α β : Type} (f : α → β) (ps : List α) (lo hi : Option Int) : cutL (ps.map f) lo hi = (cutL ps lo hi).map f := by
  unfold cutL
  rw [List.length_map, List.map_take, List.map_drop]
theorem cut_last {α : Type} (ps : List α) : (cutL ps none (some (-1))).length = ps.length - 1 := by
  unfold cutL
  have h : HT.sIx ps.length ps.length (some (-1)) = ps.length - 1 := by
    show (if (-1 : Int) < 0 then ((-1 : Int) + (ps.length : Int)).toNat else min (-1 : Int).toNat ps.length) = _
    rw [if_pos (by decide)]; omega
  rw [h, HT.sIx_none, List.drop_zero, List.length_take]
  omega
theorem dats_ints (ns : List Int) : datsOf (ns.map fun i => D.dat (.int i)) = some (ns.map PyData.int) := by
  rw [← map_dat PyData.int ns]; exact datsOf_map _
theorem noLists_all {α : Type} {f : α → PyData} : ∀ {l : List α}, (∀ a ∈ l, noList (f a) = true) → noLists (l.map f) = true
  | [], _ => rfl
  | a :: l, h => by
    show (noList (f a) && noLists (l.map f)) = true
    rw [h a List.mem_cons_self, noLists_all fun b hb => h b (List.mem_cons_of_mem _ hb)]; rfl
theorem noList_row (r : Row) : noList (encRow r) = true := noLists_all fun p _ => rfl
theorem noList_sh (s : Sh) : noList (encSh s) = true := by
  show (noList (encRow s.z) && (noList (.tuple (s.h.map encRow)) && true)) = true
  rw [noList_row, show noList (.tuple (s.h.map encRow)) = true from noLists_all fun r _ => noList_row r]; rfl
theorem szs_le {α : Type} {f : α → PyData} {c : Nat} : ∀ {l : List α}, (∀ a ∈ l, szP (f a) ≤ c) → szsP (l.map f) ≤ l.length * c
  | [], _ => Nat.zero_le _
  | a :: l, h => by
    have h1 := h a List.mem_cons_self
    have h2 := szs_le fun b hb => h b (List.mem_cons_of_mem _ hb)
    rw [List.map_cons, szsP, List.length_cons, Nat.succ_mul]
    omega
theorem sz_P (p : PI) : szP (encP p) ≤ 3 := by simp [encP, szP, szsP]
theorem sz_row {r : Row} (h : r.length ≤ 1000) : szP (encRow r) ≤ 3001 := by
  show szsP (r.map encP) + 1 ≤ 3001
  have := szs_le (f := encP) (c := 3) (l := r) fun p _ => sz_P p
  have : r.length * 3 ≤ 1000 * 3 := Nat.mul_le_mul_right _ h
  omega
theorem sz_sh {n m : Nat} {s : Sh} (k : ShOk n m s) (hn : n ≤ 1000) (hm : m ≤ 1000) : szP (encSh s) ≤ 16000000 := by
  have h1 := sz_row (r := s.z) (by rw [k.z]; exact hn)
  have h2 := szs_le (f := encRow) (c := 3001) (l := s.h) fun r hr => sz_row (by rw [k.r r hr]; exact hn)
  have h3 : s.h.length * 3001 ≤ 1000 * 3001 := Nat.mul_le_mul_right _ (by rw [k.h]; exact hm)
  show szsP [encRow s.z, .tuple (s.h.map encRow)] + 1 ≤ _
  rw [szsP, szsP, szsP]
  rw [show szP (.tuple (s.h.map encRow)) = szsP (s.h.map encRow) + 1 from by rw [szP]]
  omega
theorem row_past : ∀ (ps : List PyData) (n : Int) (x : PyData) (xs : List PyData), rowP n ps = true → rowP n (ps ++ x :: xs) = false
  | [], n, x, xs, h => by
    have h' : decide (n = 0) = true := h
    show (!decide (n = 0) && _) = false
    rw [h']; rfl
  | p :: ps, n, x, xs, h => by
    have h' : (!decide (n = 0) && (isSymP p && rowP (n + manyP p - 1) ps)) = true := h
    obtain ⟨h1, h2⟩ := Bool.and_eq_true_iff.mp h'
    obtain ⟨h3, h4⟩ := Bool.and_eq_true_iff.mp h2
    show (!decide (n = 0) && (isSymP p && rowP (n + manyP p - 1) (ps ++ x :: xs))) = false
    rw [row_past ps _ x xs h4, Bool.and_false, Bool.and_false]
/-- no tree -/
structure BadT (d : PyData) : Prop where
  fit : fit d = true
  no : isTreeP d = false
theorem TreeOk.syms_fit {t : Tr} (h : TreeOk t) : ∀ p ∈ t.map encS, DL.fit p = true := fun p hp => by
  obtain ⟨s, hs, rfl⟩ := List.mem_map.mp hp
  exact fit_S (h.syms s hs).len
theorem bad_at {t : Tr} (tk : TreeOk t) (j : Nat) (hj : j < 11) : ∃ d, atI (([.none, .tuple [], .int 1, .list (t.map encS), .tuple (t.map encS ++ t.map encS), .tuple (t.map encS ++ [.tuple [.str "i", .int 0]]), .tuple [.tuple [.str "s", .int 1]], .tuple [.tuple [.str "?", .int 0]], .tuple [.tuple [.str "i", .bool false]], .tuple [.list [.str "i", .int 0]], .str "i"] : List PyData).map D.dat) (j : Int) = some (.dat d) ∧ BadT d := by
  have hl := tk.few
  have hf := tk.syms_fit
  have ht : rowP 1 (t.map encS) = true := tk.tree
  match j, hj with
  | 0, _ => exact ⟨_, rfl, rfl, rfl⟩
  | 1, _ => exact ⟨_, rfl, rfl, rfl⟩
  | 2, _ => exact ⟨_, rfl, rfl, rfl⟩
  | 3, _ => exact ⟨_, rfl, fit_lst_mk hf (by rw [List.length_map]; omega), rfl⟩
  | 4, _ =>
    refine ⟨_, rfl, fit_tup_mk (fun p hp => ?_) (by rw [List.length_append, List.length_map]; omega), ?_⟩
    · rcases List.mem_append.mp hp with h | h
      · exact hf p h
      · exact hf p h
    · show rowP 1 (t.map encS ++ t.map encS) = false
      cases h : t with
      | nil => exact (tk.ne h).elim
      | cons s r =>
        rw [h] at ht
        rw [List.map_cons] at ht ⊢
        exact row_past _ _ _ _ ht
  | 5, _ =>
    refine ⟨_, rfl, fit_tup_mk (fun p hp => ?_) (by rw [List.length_append, List.length_map]; show _ + 1 ≤ _; omega), row_past _ _ _ _ ht⟩
    rcases List.mem_append.mp hp with h | h
    · exact hf p h
    · rcases List.mem_singleton.mp h with rfl
      decide +kernel
  | 6, _ => exact ⟨_, rfl, by decide +kernel, by decide +kernel⟩
  | 7, _ => exact ⟨_, rfl, by decide +kernel, by decide +kernel⟩
  | 8, _ => exact ⟨_, rfl, by decide +kernel, by decide +kernel⟩
  | 9, _ => exact ⟨_, rfl, by decide +kernel, by decide +kernel⟩
  | 10, _ => exact ⟨_, rfl, by decide +kernel, rfl⟩
abbrev s_law : Stmt := topS 57
def qLam : Str := (envOfC "law" (defScope s_law) 0 0 .none).qual ++ "<lambda>"
def IsScr (ns : List Int) (o : Option MO) : Prop := o = some (.frz (ns.map fun i => .dat (.int i))) ∨ o = some (.lst (ns.map fun i => .dat (.int i)))
def sp_law (P0 : Addr) : MSp := fun ds M Q => ∃ (s : Addr) (ns : List Int), ds = [.ref s] ∧ IsScr ns (M s) ∧ ns.length ≤ 1000 ∧ M P0 = some (.cod qLam) ∧ ∀ M', Q (.dat (.bool true)) M'
theorem IsScr.seq {ns : List Int} {M : Mp} {s : Addr} (h : IsScr ns (M s)) : seqOf M (.ref s) = some (ns.map fun i => .dat (.int i)) := by
  rcases h with h | h
  · exact seq_frz h
  · exact seq_ref h
theorem IsScr.some {ns : List Int} {o : Option MO} (h : IsScr ns o) : o.isSome = true := by
  rcases h with h | h <;> rw [h] <;> rfl
theorem len_law {P0 : Addr} {a b c} (h : sp_law P0 a b c) : a.length = 1 := by
  obtain ⟨s, ns, rfl, _⟩ := h; rfl
def t_law (P0 C_NotUsable C_InvalidPaper : Addr) : DS :=
  dSeq (dAsg (dCB sumC (aCons (dLc (iSeq (dSl (dVar 0) (oSome (dUn negD (dC (.int 1)))) (oNone))) (dName 17) (dYes) (dCB intC (aCons (dVar 17) (aNil))) [17] finL) (aNil))) (dName 1)) (dSeq (dAsg (dLstM (aCons (dLc (iSeq (dSl (dVar 0) (oNone) (oSome (dUn negD (dC (.int 1)))))) (dName 17) (dYes) (dCB intC (aCons (dVar 17) (aNil))) [17] finM) (aCons (dC (.int 0)) (aCons (dVar 1) (aNil))))) (dName 2)) (dSeq (dIfS (dB (dOp ltD (dCB lenC (aCons (dVar 0) (aNil))) (dC (.int 2)))) (dDrop (dMeth appendM (dOp ixD (dVar 2) (dC (.int 0))) (aCons (dOp addD (dC (.int 11)) (dVar 1)) (aNil)))) (dNext)) (dSeq (dAsg (dCallP sp_law_trim (aCons (dCallM sp_law_free (aCons (dVar 2) (aNil))) (aNil))) (dName 15)) (dSeq (dAsg (dCallM sp_law_tree (aCons (dVar 2) (aCons (dVar 15) (aNil)))) (dName 3)) (dSeq (dAsg (dCallP sp_law_true (aCons (dVar 15) (aCons (dVar 3) (aNil)))) (dName 4)) (dSeq (dAsg (dCB minC (aCons (dLc (iSeq (dOp ixD (dVar 15) (dC (.int 1)))) (dName 5) (dYes) (dOp ixD (dOp ixD (dOp ixD (dVar 4) (dC (.int 1))) (dC (.int 0))) (dVar 5)) [5] finL) (aNil))) (dTupG 2 (gsCons (dName 6) (gsCons (dName 7) (gsNil))))) (dSeq (dAsg (dCallP (sp_floors_of C_NotUsable) (aCons (dVar 15) (aCons (dVar 3) (aNil)))) (dName 8)) (dSeq (dIfS (dNot (dB (dCallP sp_law_same (aCons (dCallP sp_law_judged (aCons (dVar 15) (aCons (dVar 3) (aCons (dVar 8) (aNil))))) (aCons (dTup (aCons (dC (.str (Str.ofString "told"))) (aCons (dTup (aCons (dVar 6) (aCons (dVar 7) (aNil)))) (aNil)))) (aNil)))))) (dRet (dC (.bool false))) (dNext)) (dSeq (dIfS (dOr (dNot (dB (dCallP sp_law_same (aCons (dCallP (sp_lets_floors C_NotUsable C_InvalidPaper) (aCons (dVar 15) (aCons (dVar 3) (aCons (dVar 8) (aNil))))) (aCons (dTup (aCons (dVar 6) (aCons (dVar 7) (aNil)))) (aNil)))))) (dNot (dB (dCallP sp_law_same (aCons (dCallKw (sp_floors_of C_NotUsable) (aCons (dVar 3) (aCons (dVar 15) (aNil)))) (aCons (dVar 8) (aNil))))))) (dRet (dC (.bool false))) (dNext)) (dSeq (dIfS (dOr (dNot (dB (dCallP sp_law_right (aCons (dVar 15) (aCons (dVar 3) (aCons (dVar 4) (aNil))))))) (dNot (dB (dCallP sp_law_same (aCons (dCallKw (sp_lets_floors C_NotUsable C_InvalidPaper) (aCons (dVar 4) (aCons (dVar 3) (aCons (dVar 15) (aNil))))) (aCons (dTup (aCons (dVar 6) (aCons (dVar 7) (aNil)))) (aNil))))))) (dRet (dC (.bool false))) (dNext)) (dSeq (dFor (iRange (dC (.int 5))) (dName 9) (dSeq (dAsg (dCallM sp_law_bent (aCons (dVar 2) (aCons (dVar 15) (aCons (dOp ixD (dLst (aCons (dVar 4) (aCons (dVar 8) (aNil)))) (dOp modD (dVar 9) (dC (.int 2)))) (aNil))))) (dName 10)) (dSeq (dIfS (dB (dOp eqD (dVar 9) (dC (.int 4)))) (dAsg (dCallM sp_law_bent (aCons (dVar 2) (aCons (dVar 15) (aCons (dVar 10) (aNil))))) (dName 10)) (dNext)) (dIfS (dNot (dB (dCallP sp_law_right (aCons (dVar 15) (aCons (dVar 3) (aCons (dVar 10) (aNil))))))) (dRet (dC (.bool false))) (dNext))))) (dSeq (dAsg (dOp ixD (dLst (aCons (dTup (aCons (dVar 6) (aCons (dVar 7) (aNil)))) (aCons (dTup (aCons (dVar 6) (aCons (dOp subD (dVar 7) (dC (.int 1))) (aNil)))) (aCons (dTup (aCons (dOp subD (dVar 6) (dC (.int 1))) (aCons (dOp addD (dVar 7) (dOp powD (dC (.int 10)) (dC (.int 20)))) (aNil)))) (aCons (dTup (aCons (dUn negD (dC (.int 7))) (aCons (dCallM sp_law_pick (aCons (dVar 2) (aCons (dC (.int 99)) (aNil)))) (aNil)))) (aCons (dTup (aCons (dC (.int 0)) (aCons (dUn negD (dC (.int 3))) (aNil)))) (aNil))))))) (dCallM sp_law_pick (aCons (dVar 2) (aCons (dC (.int 5)) (aNil))))) (dName 11)) (dSeq (dAsg (dCB min2C (aCons (dVar 11) (aCons (dTup (aCons (dVar 6) (aCons (dVar 7) (aNil)))) (aNil)))) (dName 11)) (dSeq (dAsg (dCB listM (aCons (dOp ixD (dOp ixD (dVar 4) (dC (.int 1))) (dC (.int 0))) (aNil))) (dName 12)) (dSeq (dFor (iSeq (dOp ixD (dVar 15) (dC (.int 1)))) (dName 5) (dAsg (dCB min2C (aCons (dVar 11) (aCons (dOp ixD (dVar 12) (dVar 5)) (aNil)))) (dSub (dVar 12) (dVar 5) (setL)))) (dSeq (dAsg (dTup (aCons (dOp ixD (dVar 4) (dC (.int 0))) (aCons (dOp addD (dTup (aCons (dCB tupleC (aCons (dVar 12) (aNil))) (aNil))) (dSl (dOp ixD (dVar 4) (dC (.int 1))) (oSome (dC (.int 1))) (oNone))) (aNil)))) (dName 13)) (dSeq (dIfS (dOr (dNot (dB (dCallP sp_law_same (aCons (dCallP sp_law_judged (aCons (dVar 15) (aCons (dVar 3) (aCons (dVar 13) (aNil))))) (aCons (dTup (aCons (dC (.str (Str.ofString "told"))) (aCons (dVar 11) (aNil)))) (aNil)))))) (dNot (dB (dCallP sp_law_right (aCons (dVar 15) (aCons (dVar 3) (aCons (dVar 13) (aNil)))))))) (dRet (dC (.bool false))) (dNext)) (dSeq (dIfS (dNot (dB (dCallP sp_law_right (aCons (dVar 15) (aCons (dVar 3) (aCons (dCallM sp_law_drawn (aCons (dVar 2) (aCons (dVar 15) (aCons (dVar 3) (aNil))))) (aNil))))))) (dRet (dC (.bool false))) (dNext)) (dSeq (dAsg (dCallM sp_law_no_sheet (aCons (dVar 2) (aCons (dVar 4) (aNil)))) (dName 16)) (dSeq (dIfS (dOr (dNot (dB (dCallP sp_law_same (aCons (dCallP sp_law_judged (aCons (dVar 15) (aCons (dVar 3) (aCons (dVar 16) (aNil))))) (aCons (dTup (aCons (dC (.str (Str.ofString "shape"))) (aCons (dUn negD (dC (.int 1))) (aNil)))) (aNil)))))) (dNot (dB (dCallP sp_law_right (aCons (dVar 15) (aCons (dVar 3) (aCons (dVar 16) (aNil)))))))) (dRet (dC (.bool false))) (dNext)) (dSeq (dAsg (dOp ixD (dLst (aCons (dC .none) (aCons (dTup (aNil)) (aCons (dC (.int 1)) (aCons (dCB listC (aCons (dVar 3) (aNil))) (aCons (dOp addD (dVar 3) (dVar 3)) (aCons (dOp addD (dVar 3) (dTup (aCons (dTup (aCons (dC (.str (Str.ofString "i"))) (aCons (dC (.int 0)) (aNil)))) (aNil)))) (aCons (dTup (aCons (dTup (aCons (dC (.str (Str.ofString "s"))) (aCons (dC (.int 1)) (aNil)))) (aNil))) (aCons (dTup (aCons (dTup (aCons (dC (.str (Str.ofString "?"))) (aCons (dC (.int 0)) (aNil)))) (aNil))) (aCons (dTup (aCons (dTup (aCons (dC (.str (Str.ofString "i"))) (aCons (dC (.bool false)) (aNil)))) (aNil))) (aCons (dTup (aCons (dLst (aCons (dC (.str (Str.ofString "i"))) (aCons (dC (.int 0)) (aNil)))) (aNil))) (aCons (dC (.str (Str.ofString "i"))) (aNil))))))))))))) (dCallM sp_law_pick (aCons (dVar 2) (aCons (dC (.int 11)) (aNil))))) (dName 14)) (dSeq (dIfS (dNot (dB (dRefused P0 C_NotUsable qLam (sp_lets_floors C_NotUsable C_InvalidPaper) (aCons (dVar 15) (aCons (dVar 14) (aCons (dVar 16) (aNil)))) (Str.ofString "tree")))) (dRet (dC (.bool false))) (dNext)) (dRet (dRefused P0 C_NotUsable qLam (sp_floors_of C_NotUsable) (aRev (aCons (dVar 14) (aCons (dVar 15) (aNil)))) (Str.ofString "tree")))))))))))))))))))))))))
theorem same_two {S : PyData} {k : Nat} : atI ([S, S].map D.dat) (((k : Nat) : Int) % 2) = some (.dat S) := by
  rcases Nat.mod_two_eq_zero_or_one k with h | h
  · rw [show ((k : Nat) : Int) % 2 = ((0 : Nat) : Int) by omega]; rfl
  · rw [show ((k : Nat) : Int) % 2 = ((1 : Nat) : Int) by omega]; rfl
theorem law_law {P0 C_NotUsable C_InvalidPaper : Addr} {a b c} (h : sp_law P0 a b c) : t_law P0 C_NotUsable C_InvalidPaper { nx := fun _ M' => c (.dat .none) M', rt := c } (startD ["_law_script", "_law_salt", "_law_tape", "_law_tree_here", "_law_true_here", "_law_start", "_law_price", "_law_size", "_law_told", "_law_turn", "_law_bent_here", "_law_low", "_law_top", "_law_floors", "_law_bad", "_law_grammar", "_law_odd", "_law_cell"] a) b := by
  obtain ⟨s, ns, rfl, hs, hl, hP, q⟩ := h
  have hc1 := cutL_len (ps := ns) (lo := some (-1)) (hi := none)
  have hc2 := cutL_len (ps := ns) (lo := none) (hi := some (-1))
  refine ⟨_, _, hs.seq, dats_ints ns, _, rfl, ?_, ?_⟩
  · rw [cutL_map, List.length_map, List.length_map]; omega
  rw [cutL_map]
  refine lc_dat (cutL ns (some (-1)) none) PyData.int PyData.int rfl (fun i hi K k => k) ⟨_, rfl, ?_⟩
  generalize (cutL ns (some (-1)) none).sum = salt
  refine ⟨_, _, hs.seq, dats_ints ns, _, rfl, ?_, ?_⟩
  · rw [cutL_map, List.length_map, List.length_map]; omega
  rw [cutL_map]
  refine lc_map (cutL ns none (some (-1))) (fun i => D.dat (.int i)) (fun i => D.dat (.int i)) (map_dat _ _) rfl (fun i hi K k => k) fun p hp => ⟨ok16 rfl, fun a ha => ?_⟩
  have sp1 : s ≠ p := (ne_fresh hp hs.some).symm
  have Pp1 : P0 ≠ p := (ne_fresh hp (by rw [hP]; rfl)).symm
  have pa : p ≠ a := (ne_fresh ha (by rw [updM_same]; rfl)).symm
  have sa : s ≠ a := (ne_fresh ha (by rw [updM_ne sp1]; exact hs.some)).symm
  have Pa : P0 ≠ a := (ne_fresh ha (by rw [updM_ne Pp1, hP]; rfl)).symm
  refine seq_mid (fun δ M => ∃ M', M = M' ∧ IsScr ns (M s) ∧ M P0 = some (.cod qLam) ∧ M p = some (.lst ((cutL ns none (some (-1))).map fun i => .dat (.int i))) ∧ M a = some (.lst [.ref p, .dat (.int 0), .dat (.int salt)]) ∧ δ = [some (.ref s), some (.dat (.int salt)), some (.ref a), none, none, none, none, none, none, none, none, none, none, none, none, none, none, none]) (fun K hK => hK _ _ ⟨_, rfl, by rw [updM_ne sa, updM_ne sp1]; exact hs, by rw [updM_ne Pa, updM_ne Pp1]; exact hP, by rw [updM_ne pa, updM_same], updM_same, rfl⟩) ?_
  clear hs hP hp ha sp1 Pp1
  rintro δ M ⟨_, rfl, hs, hP, hp, ha, rfl⟩
  refine seq_mid (fun δ M => Tape a p 0 M ∧ M P0 = some (.cod qLam) ∧ δ = [some (.ref s), some (.dat (.int salt)), some (.ref a), none, none, none, none, none, none, none, none, none, none, none, none, none, none, none]) (fun K hK => ?_) ?_
  · have Pp : P0 ≠ p := fun e => by rw [e, hp] at hP; cases hP
    refine ⟨_, hs.seq, ?_⟩
    rw [List.length_map]
    refine if_b (fun e => ?_) fun e => ?_
    · refine ⟨_, _, seq_ref ha, atI_nat (i := 0) rfl, ⟨_, hp⟩, _, hp, by rw [List.length_map]; omega, hK _ _ ⟨⟨pa, cutL ns none (some (-1)) ++ [11 + salt], salt, by simp, ?_, ?_⟩, ?_, rfl⟩⟩
      · rw [updM_same, List.map_append]; rfl
      · rw [updM_ne pa.symm]; exact ha
      · rw [updM_ne Pp]; exact hP
    · have h2 : 2 ≤ ns.length := by have := of_decide_eq_false e; omega
      refine hK _ _ ⟨⟨pa, _, salt, fun z => ?_, hp, ha⟩, hP, rfl⟩
      have := cut_last ns
      rw [z, List.length_nil] at this
      omega
  clear hs hP hp ha
  rintro δ M0 ⟨T, hP, rfl⟩
  have Pp : P0 ≠ p := fun e => by
    obtain ⟨_, _, _, _, h1, _⟩ := T
    rw [e, h1] at hP; cases hP
  refine seq_mid (fun δ M => ∃ (g : Gr) (t : Nat), GrT g ∧ t ≤ 1000 ∧ Tape a p t M ∧ M P0 = some (.cod qLam) ∧ δ = [some (.ref s), some (.dat (.int salt)), some (.ref a), none, none, none, none, none, none, none, none, none, none, none, none, some (.dat (encG g)), none, none]) (fun K hK => ?_) ?_
  · refine ⟨a, p, 0, rfl, T, by omega, fun g0 M' t' fr T' ht' kp => ⟨_, rfl, g0, rfl, fr, fun g gt => ?_⟩⟩
    exact hK _ _ ⟨g, t', gt, by omega, T', kp _ _ Pa Pp hP, rfl⟩
  clear T hP
  rintro δ M1 ⟨g, t1, gt, ht1, T, hP, rfl⟩
  refine seq_mid (fun δ M => ∃ (tr : Tr) (t : Nat), TreeOk tr ∧ t ≤ 2000 ∧ Tape a p t M ∧ M P0 = some (.cod qLam) ∧ δ = [some (.ref s), some (.dat (.int salt)), some (.ref a), some (.dat (encT tr)), none, none, none, none, none, none, none, none, none, none, none, some (.dat (encG g)), none, none]) (fun K hK => ?_) ?_
  · refine ⟨a, p, t1, g, rfl, T, by omega, gt.rules_ne, gt.ok.rl, gt.syms, fun tr M' t' tk T' ht' kp => ?_⟩
    exact hK _ _ ⟨tr, t', tk, by omega, T', kp _ _ Pa Pp hP, rfl⟩
  clear T hP
  rintro δ M2 ⟨tr, t2, tk, ht2, T, hP, rfl⟩
  have hgn := gt.ok.few
  have hgn4 := gt.few
  have hsl := gt.ok.sl
  have htl := tk.few
  have ht0 : 0 < tr.length := List.length_pos_iff.mpr tk.ne
  have hn0 : 0 < g.n := by
    cases h : g.starts with
    | nil => exact (gt.ok.s0 h).elim
    | cons x l =>
      have := gt.ok.st x (by rw [h]; exact List.mem_cons_self)
      omega
  have sk := trueSh_ok g tr gt
  have fsh : fit (encSh (trueSh g tr)) = true := fit_sh sk hgn (by omega)
  have hne : g.starts.map (at2 (row2 (TB g tr) 0)) ≠ [] := by simp [gt.ok.s0]
  obtain ⟨PS, hPS⟩ : ∃ PS, PS = minP (g.starts.map (at2 (row2 (TB g tr) 0))) := ⟨_, rfl⟩
  have hjt : judge g tr (trueSh g tr) = .told PS := by rw [hPS]; exact judge_true gt
  have hrow0 : row2 (TB g tr) 0 ∈ TB g tr := List.mem_of_getElem? (row2_get (by rw [TB_len]; exact ht0))
  have hr0l : (row2 (TB g tr) 0).length = g.n := TB_rlen ht0
  refine seq_mid (fun δ M => M = M2 ∧ δ = [some (.ref s), some (.dat (.int salt)), some (.ref a), some (.dat (encT tr)), some (.dat (encSh (trueSh g tr))), none, none, none, none, none, none, none, none, none, none, some (.dat (encG g)), none, none]) (fun K hK => ⟨_, rfl, g, tr, rfl, gt.ok, tk.ok, hK _ _ ⟨rfl, rfl⟩⟩) ?_
  rintro δ M ⟨rfl, rfl⟩
  refine seq_mid (fun δ M' => M' = M ∧ δ = [some (.ref s), some (.dat (.int salt)), some (.ref a), some (.dat (encT tr)), some (.dat (encSh (trueSh g tr))), none, some (.dat (.int PS.1)), some (.dat (.int PS.2)), none, none, none, none, none, none, none, some (.dat (encG g)), none, none]) (fun K hK => ?_) ?_
  · refine ⟨_, _, rfl, rfl, _, rfl, by rw [List.length_map, List.length_map]; omega, lc_dat g.starts encN (fun x => encP (at2 (row2 (TB g tr) 0) x)) rfl (fun x hx K k => ⟨_, _, rfl, rfl, _, _, rfl, atI_map (i := 0) (row2_get (r := TB g tr) (by rw [TB_len]; exact ht0)), _, _, rfl, atI_map (at2_get (by rw [hr0l]; exact gt.ok.st x hx)), k⟩) ?_⟩
    have em : (g.starts.map fun x => encP (at2 (row2 (TB g tr) 0) x)) = (g.starts.map (at2 (row2 (TB g tr) 0))).map encP := by rw [List.map_map]; rfl
    rw [em]
    refine ⟨_, rfl, hne, fun r h1 h2 => ?_⟩
    rw [minP_uniq hne h1 h2, ← hPS]
    exact ⟨rfl, rfl, hK _ _ ⟨rfl, rfl⟩⟩
  rintro δ M' ⟨rfl, rfl⟩
  refine seq_mid (fun δ M => M = M' ∧ δ = [some (.ref s), some (.dat (.int salt)), some (.ref a), some (.dat (encT tr)), some (.dat (encSh (trueSh g tr))), none, some (.dat (.int PS.1)), some (.dat (.int PS.2)), some (.dat (encSh (trueSh g tr))), none, none, none, none, none, none, some (.dat (encG g)), none, none]) (fun K hK => ?_) ?_
  · exact ⟨_, rfl, g, encT tr, rfl, tk.fit, .inr ⟨tk.tree, tr, rfl, tk, gt, hK _ _ ⟨rfl, rfl⟩⟩⟩
  rintro δ M ⟨rfl, rfl⟩
  refine seq_mid (fun δ M' => M' = M ∧ δ = [some (.ref s), some (.dat (.int salt)), some (.ref a), some (.dat (encT tr)), some (.dat (encSh (trueSh g tr))), none, some (.dat (.int PS.1)), some (.dat (.int PS.2)), some (.dat (encSh (trueSh g tr))), none, none, none, none, none, none, some (.dat (encG g)), none, none]) (fun K hK => ?_) ?_
  · refine ⟨_, rfl, g, tr, encSh (trueSh g tr), rfl, fsh, gt.ok, tk.ok, tk.ne, .inr ⟨sheet_ok sk, _, rfl, sk, ?_⟩⟩
    rw [hjt]
    exact ⟨ok16 rfl, ok16 rfl, _, rfl, tagP "told" (encP PS), rfl, rfl, Nat.le_of_ble_eq_true rfl, hK _ _ ⟨rfl, rfl⟩⟩
  rintro δ M' ⟨rfl, rfl⟩
  refine seq_mid (fun δ M => M = M' ∧ δ = [some (.ref s), some (.dat (.int salt)), some (.ref a), some (.dat (encT tr)), some (.dat (encSh (trueSh g tr))), none, some (.dat (.int PS.1)), some (.dat (.int PS.2)), some (.dat (encSh (trueSh g tr))), none, none, none, none, none, none, some (.dat (encG g)), none, none]) (fun K hK => ?_) ?_
  · refine ⟨_, rfl, g, encT tr, encSh (trueSh g tr), rfl, tk.fit, fsh, gt.ok, .inr ⟨tk.tree, tr, rfl, tk.ok, tk.ne, .inr ⟨sheet_ok sk, _, rfl, sk, ?_⟩⟩⟩
    rw [hjt]
    refine ⟨ok16 rfl, _, rfl, encP PS, rfl, rfl, Nat.le_of_ble_eq_true rfl, ?_⟩
    refine ⟨_, rfl, g, encT tr, rfl, tk.fit, .inr ⟨tk.tree, tr, rfl, tk, gt, ?_⟩⟩
    exact ⟨_, rfl, encSh (trueSh g tr), rfl, noList_sh _, sz_sh sk hgn (by omega), hK _ _ ⟨rfl, rfl⟩⟩
  rintro δ M ⟨rfl, rfl⟩
  refine seq_mid (fun δ M' => M' = M ∧ δ = [some (.ref s), some (.dat (.int salt)), some (.ref a), some (.dat (encT tr)), some (.dat (encSh (trueSh g tr))), none, some (.dat (.int PS.1)), some (.dat (.int PS.2)), some (.dat (encSh (trueSh g tr))), none, none, none, none, none, none, some (.dat (encG g)), none, none]) (fun K hK => ?_) ?_
  · refine ⟨_, rfl, g, tr, encSh (trueSh g tr), rfl, fsh, tk.fit, tk.tree, gt.ok, tk.ok, tk.ne, .inr ⟨sheet_ok sk, _, rfl, sk⟩, ?_⟩
    refine ⟨_, rfl, g, encT tr, encSh (trueSh g tr), rfl, tk.fit, fsh, gt.ok, .inr ⟨tk.tree, tr, rfl, tk.ok, tk.ne, .inr ⟨sheet_ok sk, _, rfl, sk, ?_⟩⟩⟩
    rw [hjt]
    exact ⟨ok16 rfl, _, rfl, encP PS, rfl, rfl, Nat.le_of_ble_eq_true rfl, hK _ _ ⟨rfl, rfl⟩⟩
  rintro δ M' ⟨rfl, rfl⟩
  -- what is said of any sheet
  have right : ∀ s' : Sh, ShOk g.n tr.length s' → ∀ Qd : PyData → Prop, Qd (.bool true) → sp_law_right [encG g, encT tr, encSh s'] Qd (fun _ => False) := fun s' sk' Qd k =>
    ⟨g, tr, encSh s', rfl, fit_sh sk' hgn (by omega), tk.fit, tk.tree, gt.ok, tk.ok, tk.ne, .inr ⟨sheet_ok sk', _, rfl, sk'⟩, k⟩
  refine seq_mid (fun δ M => ∃ (t : Nat) (o9 o10 : Option D), t ≤ 3000 ∧ Tape a p t M ∧ M P0 = some (.cod qLam) ∧ δ = [some (.ref s), some (.dat (.int salt)), some (.ref a), some (.dat (encT tr)), some (.dat (encSh (trueSh g tr))), none, some (.dat (.int PS.1)), some (.dat (.int PS.2)), some (.dat (encSh (trueSh g tr))), o9, o10, none, none, none, none, some (.dat (encG g)), none, none]) (fun K hK => ?_) ?_
  · refine ⟨⟨by decide, by decide⟩, goFor_up 5 (fun k δ M => ∃ (t : Nat) (o9 o10 : Option D), t ≤ 2000 + 20 * k ∧ Tape a p t M ∧ M P0 = some (.cod qLam) ∧ δ = [some (.ref s), some (.dat (.int salt)), some (.ref a), some (.dat (encT tr)), some (.dat (encSh (trueSh g tr))), none, some (.dat (.int PS.1)), some (.dat (.int PS.2)), some (.dat (encSh (trueSh g tr))), o9, o10, none, none, none, none, some (.dat (encG g)), none, none]) ?_ ?_ ⟨t2, none, none, by omega, T, hP, rfl⟩⟩
    · rintro δ M ⟨t, o9, o10, ht, T, hP, rfl⟩
      exact ⟨trivial, hK _ _ ⟨t, o9, o10, by omega, T, hP, rfl⟩⟩
    · rintro k δ M K2 hk ⟨t, o9, o10, ht, T, hP, rfl⟩ hK2
      refine ⟨trivial, ?_⟩
      refine seq_mid (fun δ M => ∃ (s' : Sh) (t' : Nat), ShOk g.n tr.length s' ∧ t' ≤ t + 10 ∧ Tape a p t' M ∧ M P0 = some (.cod qLam) ∧ δ = [some (.ref s), some (.dat (.int salt)), some (.ref a), some (.dat (encT tr)), some (.dat (encSh (trueSh g tr))), none, some (.dat (.int PS.1)), some (.dat (.int PS.2)), some (.dat (encSh (trueSh g tr))), some (nD k), some (.dat (encSh s')), none, none, none, none, some (.dat (encG g)), none, none]) (fun K hK => ?_) ?_
      · refine ⟨ok16 rfl, by decide, _, _, rfl, same_two, a, p, t, tr.length, g, trueSh g tr, rfl, T, by omega, sk, ht0, by omega, hn0, by omega, fun s' M' t' sk' T' ht' kp => ?_⟩
        exact hK _ _ ⟨s', t', sk', ht', T', kp _ _ Pa Pp hP, rfl⟩
      clear T hP
      rintro δ M ⟨s', t', sk', ht', T, hP, rfl⟩
      refine seq_mid (fun δ M => ∃ (s' : Sh) (t'' : Nat), ShOk g.n tr.length s' ∧ t'' ≤ t + 20 ∧ Tape a p t'' M ∧ M P0 = some (.cod qLam) ∧ δ = [some (.ref s), some (.dat (.int salt)), some (.ref a), some (.dat (encT tr)), some (.dat (encSh (trueSh g tr))), none, some (.dat (.int PS.1)), some (.dat (.int PS.2)), some (.dat (encSh (trueSh g tr))), some (nD k), some (.dat (encSh s')), none, none, none, none, some (.dat (encG g)), none, none]) (fun K hK => ?_) ?_
      · refine if_b (fun e => ?_) fun e => ?_
        · refine ⟨a, p, t', tr.length, g, s', rfl, T, by omega, sk', ht0, by omega, hn0, by omega, fun s'' M'' t'' sk'' T'' ht'' kp => ?_⟩
          exact hK _ _ ⟨s'', t'', sk'', by omega, T'', kp _ _ Pa Pp hP, rfl⟩
        · exact hK _ _ ⟨s', t', sk', by omega, T, hP, rfl⟩
      clear T hP sk' ht' t' s'
      rintro δ M ⟨s', t', sk', ht', T, hP, rfl⟩
      exact ⟨_, rfl, right s' sk' _ (hK2 _ _ ⟨t', _, _, by omega, T, hP, rfl⟩)⟩
  clear T hP
  rintro δ M ⟨t, o9, o10, ht, T, hP, rfl⟩
  refine seq_mid (fun δ M => ∃ (L0 : PI) (t : Nat), t ≤ 3010 ∧ Tape a p t M ∧ M P0 = some (.cod qLam) ∧ δ = [some (.ref s), some (.dat (.int salt)), some (.ref a), some (.dat (encT tr)), some (.dat (encSh (trueSh g tr))), none, some (.dat (.int PS.1)), some (.dat (.int PS.2)), some (.dat (encSh (trueSh g tr))), o9, o10, some (.dat (encP L0)), none, none, none, some (.dat (encG g)), none, none]) (fun K hK => ?_) ?_
  · refine ⟨ok16 rfl, ok16 rfl, ⟨by decide, by decide, by decide⟩, ok16 rfl, a, p, t, 99, rfl, T, by omega, by decide, by decide, fun v M' hv k1 e1 => ⟨ok16 rfl, ok16 rfl, ok16 rfl, a, p, t + 1, 5, rfl, k1, by omega, by decide, by decide, fun j M'' hj k2 e2 => ?_⟩⟩
    obtain ⟨L0, eL⟩ : ∃ L0 : PI, atI ([encP (PS.1, PS.2), encP (PS.1, PS.2 - 1), encP (PS.1 - 1, PS.2 + 10 ^ (20 : Int).toNat), encP (-7, ((v : Nat) : Int)), encP (0, -3)].map D.dat) ((j : Nat) : Int) = some (.dat (encP L0)) := by
      match j, hj with
      | 0, _ => exact ⟨_, rfl⟩
      | 1, _ => exact ⟨_, rfl⟩
      | 2, _ => exact ⟨_, rfl⟩
      | 3, _ => exact ⟨_, rfl⟩
      | 4, _ => exact ⟨_, rfl⟩
    exact ⟨_, _, rfl, eL, hK _ _ ⟨L0, _, by omega, k2, by rw [e2 _ Pa Pp, e1 _ Pa Pp]; exact hP, rfl⟩⟩
  clear T hP ht t
  rintro δ M ⟨L0, t, ht, T, hP, rfl⟩
  refine seq_mid (fun δ M' => ∃ LW : PI, pLt PS LW = false ∧ M' = M ∧ δ = [some (.ref s), some (.dat (.int salt)), some (.ref a), some (.dat (encT tr)), some (.dat (encSh (trueSh g tr))), none, some (.dat (.int PS.1)), some (.dat (.int PS.2)), some (.dat (encSh (trueSh g tr))), o9, o10, some (.dat (encP LW)), none, none, none, some (.dat (encG g)), none, none]) (fun K hK => ⟨ok16 rfl, L0, PS, rfl, rfl, hK _ _ ⟨min2 L0 PS, min2_r _ _, rfl, rfl⟩⟩) ?_
  rintro δ M ⟨LW, hLW, rfl, rfl⟩
  -- the first row, lowered at the starts
  refine seq_mid (fun δ M => ∃ pt, pt ≠ a ∧ pt ≠ p ∧ pt ≠ P0 ∧ M pt = some (.lst (rowD (row2 (TB g tr) 0))) ∧ Tape a p t M ∧ M P0 = some (.cod qLam) ∧ δ = [some (.ref s), some (.dat (.int salt)), some (.ref a), some (.dat (encT tr)), some (.dat (encSh (trueSh g tr))), none, some (.dat (.int PS.1)), some (.dat (.int PS.2)), some (.dat (encSh (trueSh g tr))), o9, o10, some (.dat (encP LW)), some (.ref pt), none, none, some (.dat (encG g)), none, none]) (fun K hK => ?_) ?_
  · refine ⟨_, _, rfl, rfl, _, _, rfl, atI_map (i := 0) (row2_get (r := TB g tr) (by rw [TB_len]; exact ht0)), _, rfl, fun pt hpt => ?_⟩
    have Ts := T.some
    refine hK _ _ ⟨pt, ne_fresh hpt Ts.1, ne_fresh hpt Ts.2, ne_fresh hpt (by rw [hP]; rfl), ?_, T.new hpt, ?_, rfl⟩
    · rw [updM_same, rowD_eq]
    · rw [updM_ne (ne_fresh hpt (by rw [hP]; rfl)).symm]; exact hP
  clear T hP
  rintro δ M ⟨pt, pta, ptp, ptP, hM, T, hP, rfl⟩
  have hPSle : ∀ x ∈ g.starts, pLt (at2 (row2 (TB g tr) 0) x) PS = false := fun x hx => by
    rw [hPS]
    exact (minP_spec _ hne).2 _ (List.mem_map_of_mem hx)
  refine seq_mid (fun δ M => ∃ (row : Row) (o5 : Option D), row.length = g.n ∧ (∀ i, i < g.n → pLt (at2 (row2 (TB g tr) 0) i) (at2 row i) = false) ∧ (∀ x ∈ g.starts, at2 row x = LW) ∧ M pt = some (.lst (rowD row)) ∧ Tape a p t M ∧ M P0 = some (.cod qLam) ∧ δ = [some (.ref s), some (.dat (.int salt)), some (.ref a), some (.dat (encT tr)), some (.dat (encSh (trueSh g tr))), o5, some (.dat (.int PS.1)), some (.dat (.int PS.2)), some (.dat (encSh (trueSh g tr))), o9, o10, some (.dat (encP LW)), some (.ref pt), none, none, some (.dat (encG g)), none, none]) (fun K hK => ?_) ?_
  · refine ⟨_, _, rfl, rfl, _, rfl, goFor_ind nD (fun l δ M => ∃ (row : Row) (o5 : Option D), row.length = g.n ∧ (∀ x ∈ l, x ∈ g.starts) ∧ (∀ i, i < g.n → pLt (at2 (row2 (TB g tr) 0) i) (at2 row i) = false) ∧ (∀ x ∈ g.starts, pLt (at2 row x) LW = false) ∧ (∀ x ∈ g.starts, x ∈ l ∨ at2 row x = LW) ∧ M pt = some (.lst (rowD row)) ∧ Tape a p t M ∧ M P0 = some (.cod qLam) ∧ δ = [some (.ref s), some (.dat (.int salt)), some (.ref a), some (.dat (encT tr)), some (.dat (encSh (trueSh g tr))), o5, some (.dat (.int PS.1)), some (.dat (.int PS.2)), some (.dat (encSh (trueSh g tr))), o9, o10, some (.dat (encP LW)), some (.ref pt), none, none, some (.dat (encG g)), none, none]) ?_ ?_ g.starts (map_dat _ _) ⟨row2 (TB g tr) 0, none, hr0l, fun _ h => h, fun i _ => pLt_irr _, fun x hx => pLe_tr hLW (hPSle x hx), fun x hx => .inl hx, hM, T, hP, rfl⟩⟩
    · rintro δ M ⟨row, o5, h1, _, h2, _, h3, hM, T, hP, rfl⟩
      refine ⟨by show some _ = some _; rw [List.map_map], hK _ _ ⟨row, o5, h1, h2, fun x hx => ?_, hM, T, hP, rfl⟩⟩
      rcases h3 x hx with h | h
      · cases h
      · exact h
    · rintro x l δ M K2 ⟨row, o5, h1, h0, h2, h3, h4, hM, T, hP, rfl⟩ hK2
      have hx := h0 x List.mem_cons_self
      have hxn := gt.ok.st x hx
      have em : (if pLt (at2 row x) LW = true then at2 row x else LW) = LW := by rw [h3 x hx, if_neg Bool.false_ne_true]
      refine ⟨by show some _ = some _; rw [List.map_map], _, _, seq_ref hM, atI_mapD (at2_get (by rw [h1]; exact hxn)), LW, at2 row x, rfl, rfl, ?_⟩
      rw [em]
      have ha2 : ∀ i, at2 (row.set x LW) i = if i = x then LW else at2 row i := fun i => at2_set (by rw [h1]; exact hxn)
      refine ⟨_, _, hM, ixN_nat (by unfold rowD; rw [List.length_map, h1]; exact hxn), hK2 _ _ ⟨row.set x LW, _, by rw [List.length_set]; exact h1, fun y hy => h0 y (List.mem_cons_of_mem _ hy), fun i hi => ?_, fun y hy => ?_, fun y hy => ?_, ?_, T.put ptp pta, ?_, rfl⟩⟩
      · rw [ha2]
        by_cases e : i = x
        · rw [if_pos e, e]
          exact pLe_tr (h3 x hx) (h2 x hxn)
        · rw [if_neg e]; exact h2 i hi
      · rw [ha2]
        by_cases e : y = x
        · rw [if_pos e]; exact pLt_irr _
        · rw [if_neg e]; exact h3 y hy
      · rw [ha2]
        by_cases e : y = x
        · rw [if_pos e]; exact .inr rfl
        · rw [if_neg e]
          rcases h4 y hy with h | h
          · rcases List.mem_cons.mp h with h | h
            · exact absurd h e
            · exact .inl h
          · exact .inr h
      · rw [updM_same, rowD_set]
      · rw [updM_ne ptP.symm]; exact hP
  clear hM T hP
  rintro δ M ⟨row, o5, hrl, hrow, hst, hM, T, hP, rfl⟩
  have sk2 : ShOk g.n tr.length ⟨zAll g, row :: (TB g tr).drop 1⟩ := by
    refine ⟨sk.z, ?_, fun x hx => ?_⟩
    · show ((TB g tr).drop 1).length + 1 = tr.length
      rw [List.length_drop, TB_len]; omega
    · rcases List.mem_cons.mp hx with rfl | hx
      · exact hrl
      · exact sk.r x (List.mem_of_mem_drop hx)
  have hmin : minP (g.starts.map (at2 row)) = LW := by
    refine (minP_uniq (by simp [gt.ok.s0]) ?_ fun y hy => ?_).symm
    · cases h : g.starts with
      | nil => exact (gt.ok.s0 h).elim
      | cons x l =>
        have hx : x ∈ g.starts := by rw [h]; exact List.mem_cons_self
        rw [← hst x hx]
        exact List.mem_cons_self
    · obtain ⟨x, hx, rfl⟩ := List.mem_map.mp hy
      rw [hst x hx]; exact pLt_irr _
  have hj2 : judge g tr ⟨zAll g, row :: (TB g tr).drop 1⟩ = .told LW := by rw [judge_low gt hrow ht0, hmin]
  refine seq_mid (fun δ M' => M' = M ∧ δ = [some (.ref s), some (.dat (.int salt)), some (.ref a), some (.dat (encT tr)), some (.dat (encSh (trueSh g tr))), o5, some (.dat (.int PS.1)), some (.dat (.int PS.2)), some (.dat (encSh (trueSh g tr))), o9, o10, some (.dat (encP LW)), some (.ref pt), some (.dat (encSh ⟨zAll g, row :: (TB g tr).drop 1⟩)), none, some (.dat (encG g)), none, none]) (fun K hK => ?_) ?_
  · refine ⟨_, _, rfl, rfl, _, _, seq_ref hM, by rw [rowD_eq]; exact datsOf_map _, ok16 rfl, _, _, rfl, rfl, ?_⟩
    have ec : cutL ((TB g tr).map encRow) (some 1) none = ((TB g tr).map encRow).drop 1 := cut_from (k := 1)
    refine ⟨?_, ok16 rfl, ?_⟩
    · show 1 + (cutL ((TB g tr).map encRow) (some 1) none).length ≤ _
      rw [ec, List.length_drop, List.length_map, TB_len]; omega
    · refine hK _ _ ⟨rfl, ?_⟩
      have e1 : encSh ⟨zAll g, row :: (TB g tr).drop 1⟩ = .tuple [encRow (zAll g), .tuple ([.tuple (row.map encP)] ++ cutL ((TB g tr).map encRow) (some 1) none)] := by
        rw [ec]
        show PyData.tuple [_, .tuple (encRow row :: ((TB g tr).drop 1).map encRow)] = _
        rw [List.map_drop]; rfl
      rw [e1]; rfl
  rintro δ M ⟨rfl, rfl⟩
  refine seq_mid (fun δ M' => M' = M ∧ δ = [some (.ref s), some (.dat (.int salt)), some (.ref a), some (.dat (encT tr)), some (.dat (encSh (trueSh g tr))), o5, some (.dat (.int PS.1)), some (.dat (.int PS.2)), some (.dat (encSh (trueSh g tr))), o9, o10, some (.dat (encP LW)), some (.ref pt), some (.dat (encSh ⟨zAll g, row :: (TB g tr).drop 1⟩)), none, some (.dat (encG g)), none, none]) (fun K hK => ?_) ?_
  · refine ⟨_, rfl, g, tr, encSh ⟨zAll g, row :: (TB g tr).drop 1⟩, rfl, fit_sh sk2 hgn (by omega), gt.ok, tk.ok, tk.ne, .inr ⟨sheet_ok sk2, _, rfl, sk2, ?_⟩⟩
    rw [hj2]
    refine ⟨ok16 rfl, _, rfl, tagP "told" (encP LW), rfl, rfl, Nat.le_of_ble_eq_true rfl, ?_⟩
    exact ⟨_, rfl, right _ sk2 _ (hK _ _ ⟨rfl, rfl⟩)⟩
  rintro δ M ⟨rfl, rfl⟩
  refine seq_mid (fun δ M => ∃ t, t ≤ 200000 ∧ Tape a p t M ∧ M P0 = some (.cod qLam) ∧ δ = [some (.ref s), some (.dat (.int salt)), some (.ref a), some (.dat (encT tr)), some (.dat (encSh (trueSh g tr))), o5, some (.dat (.int PS.1)), some (.dat (.int PS.2)), some (.dat (encSh (trueSh g tr))), o9, o10, some (.dat (encP LW)), some (.ref pt), some (.dat (encSh ⟨zAll g, row :: (TB g tr).drop 1⟩)), none, some (.dat (encG g)), none, none]) (fun K hK => ?_) ?_
  · refine ⟨a, p, t, g, tr, rfl, T, by omega, by omega, htl, fun s' M' t' sk' T' ht' kp => ?_⟩
    exact ⟨_, rfl, right s' sk' _ (hK _ _ ⟨t', by omega, T', kp _ _ Pa Pp hP, rfl⟩)⟩
  clear hM T hP ht t
  rintro δ M ⟨t, ht, T, hP, rfl⟩
  refine seq_mid (fun δ M => ∃ (od : PyData) (t : Nat), NoSheet g.n tr.length od ∧ t ≤ 200010 ∧ Tape a p t M ∧ M P0 = some (.cod qLam) ∧ δ = [some (.ref s), some (.dat (.int salt)), some (.ref a), some (.dat (encT tr)), some (.dat (encSh (trueSh g tr))), o5, some (.dat (.int PS.1)), some (.dat (.int PS.2)), some (.dat (encSh (trueSh g tr))), o9, o10, some (.dat (encP LW)), some (.ref pt), some (.dat (encSh ⟨zAll g, row :: (TB g tr).drop 1⟩)), none, some (.dat (encG g)), some (.dat od), none]) (fun K hK => ?_) ?_
  · refine ⟨a, p, t, g.n, tr.length, trueSh g tr, rfl, T, by omega, sk, ht0, by omega, hn0, by omega, fun od M' t' ho T' ht' kp => ?_⟩
    exact hK _ _ ⟨od, t', ho, by omega, T', kp _ _ Pa Pp hP, rfl⟩
  clear T hP ht t
  rintro δ M ⟨od, t, ⟨hof, hos⟩, ht, T, hP, rfl⟩
  refine seq_mid (fun δ M' => M' = M ∧ δ = [some (.ref s), some (.dat (.int salt)), some (.ref a), some (.dat (encT tr)), some (.dat (encSh (trueSh g tr))), o5, some (.dat (.int PS.1)), some (.dat (.int PS.2)), some (.dat (encSh (trueSh g tr))), o9, o10, some (.dat (encP LW)), some (.ref pt), some (.dat (encSh ⟨zAll g, row :: (TB g tr).drop 1⟩)), none, some (.dat (encG g)), some (.dat od), none]) (fun K hK => ?_) ?_
  · refine ⟨_, rfl, g, tr, od, rfl, hof, gt.ok, tk.ok, tk.ne, .inl ⟨hos, ?_⟩⟩
    refine ⟨ok16 rfl, _, rfl, tagP "shape" (.int (-1)), rfl, rfl, Nat.le_of_ble_eq_true rfl, ?_⟩
    exact ⟨_, rfl, g, tr, od, rfl, hof, tk.fit, tk.tree, gt.ok, tk.ok, tk.ne, .inl hos, hK _ _ ⟨rfl, rfl⟩⟩
  rintro δ M ⟨rfl, rfl⟩
  refine seq_mid (fun δ M => ∃ bd : PyData, BadT bd ∧ M P0 = some (.cod qLam) ∧ δ = [some (.ref s), some (.dat (.int salt)), some (.ref a), some (.dat (encT tr)), some (.dat (encSh (trueSh g tr))), o5, some (.dat (.int PS.1)), some (.dat (.int PS.2)), some (.dat (encSh (trueSh g tr))), o9, o10, some (.dat (encP LW)), some (.ref pt), some (.dat (encSh ⟨zAll g, row :: (TB g tr).drop 1⟩)), some (.dat bd), some (.dat (encG g)), some (.dat od), none]) (fun K hK => ?_) ?_
  · refine ⟨ok16 rfl, _, _, rfl, datsOf_map _, ?_, ok16 rfl, ok16 rfl, ?_, ok16 rfl, ok16 rfl, ok16 rfl, ok16 rfl, ok16 rfl, ok16 rfl, ok16 rfl, ok16 rfl, ok16 rfl, a, p, t, 11, rfl, T, by omega, by decide, by decide, fun j M' hj k1 e1 => ?_⟩
    · rw [List.length_map]; omega
    · rw [List.length_map]; show _ + 1 ≤ _; omega
    obtain ⟨bd, eb, hb⟩ := bad_at tk j hj
    exact ⟨_, _, rfl, eb, hK _ _ ⟨bd, hb, by rw [e1 _ Pa Pp]; exact hP, rfl⟩⟩
  clear T hP
  rintro δ M ⟨bd, hb, hP, rfl⟩
  refine seq_mid (fun δ M' => M' = M ∧ δ = [some (.ref s), some (.dat (.int salt)), some (.ref a), some (.dat (encT tr)), some (.dat (encSh (trueSh g tr))), o5, some (.dat (.int PS.1)), some (.dat (.int PS.2)), some (.dat (encSh (trueSh g tr))), o9, o10, some (.dat (encP LW)), some (.ref pt), some (.dat (encSh ⟨zAll g, row :: (TB g tr).drop 1⟩)), some (.dat bd), some (.dat (encG g)), some (.dat od), none]) (fun K hK => ?_) ?_
  · exact ⟨hP, ⟨rfl, _, rfl, g, bd, od, rfl, hb.fit, hof, gt.ok, .inl ⟨hb.no, rfl⟩⟩, hK _ _ ⟨rfl, rfl⟩⟩
  rintro δ M ⟨rfl, rfl⟩
  exact ⟨hP, ⟨rfl, _, rfl, g, bd, rfl, hb.fit, .inl ⟨hb.no, rfl⟩⟩, q _⟩
end DL
set_option Elab.async false
set_option linter.all false
set_option maxRecDepth 100000
set_option maxHeartbeats 4000000
namespace DL
open PySem PySem.Spec PyProof.Rows L2
-- N = [(0, 'tree'), (1, 'found'), (2, 'waiting'), (3, 'node'), (4, 'keep')]

abbrev s_nodes_beneath : Stmt := topS 8

theorem sc_nodes_beneath : FnScope ["tree", "found", "waiting", "node", "keep"] ["tree"] (defScope s_nodes_beneath) := ⟨rfl, rfl, rfl, by decide +kernel, rfl, by decide +kernel, by decide +kernel⟩

section
variable {P : Program} {w : World} {K : PySem.W.Frag} {mg : Str → Option Value} {base : Heap}
theorem ok_nodes_beneath {f : Addr} {fd : FuncData} (F : Fun K "nodes_beneath" "nodes_beneath" s_nodes_beneath f fd) (T : Txt K mg) : FnOk P w K mg base CX0 1 f fd ["tree"] (pureSp sp_nodes_beneath) := by
  refine fn_pure (t := t_nodes_beneath) F sc_nodes_beneath (fun a b c h => len_nodes_beneath h) (fun cdv A outer s H E hr => ?_) (fun a b c h => law_nodes_beneath h)
  exact qss_cons (qs_set (i := 1) sc_nodes_beneath.nd rfl (.inl rfl) (q_op o_mulM (q_lst (qa_cons (q_tup (qa_nil)) (qa_nil))) (q_callB c_len (by rfl) T.len_ bi_len (qa_cons (q_var 0) (qa_nil)))))
    (qss_cons (qs_set (i := 2) sc_nodes_beneath.nd rfl (.inl rfl) (q_lst (qa_nil)))
    (qss_cons (qs_for (vs := [3]) PassesOwn.never rfl (qi_revRange (by rfl) T.reversed_ (by rfl) T.range_ (q_callB c_len (by rfl) T.len_ bi_len (qa_cons (q_var 0) (qa_nil)))) (qg_name (i := 3) sc_nodes_beneath.nd rfl (.inl rfl)) (qss_cons (qs_set (i := 4) sc_nodes_beneath.nd rfl (.inl rfl) (q_op o_sub (q_callB c_len (by rfl) T.len_ bi_len (qa_cons (q_var 2) (qa_nil))) (q_ix i_seq (q_ix i_seq (q_var 0) (q_var 3)) (q_int))))
    (qss_cons (qs_asg (vs := []) (q_callTy c_tuple (by rfl) T.tuple_ bi_tuple (qa_cons (q_revL (q_slice (q_var 2) (qo_some (q_var 4)) (qo_none))) (qa_nil))) (qg_sub (q_var 1) (q_var 3) (p_setL)))
    (qss_one (qs_set (i := 2) sc_nodes_beneath.nd rfl (.inl rfl) (q_op o_add (q_slice (q_var 2) (qo_none) (qo_some (q_var 4))) (q_lst (qa_cons (q_var 3) (qa_nil)))))))))
    (qss_one (qs_ret (q_var 1)))))
end


-- N = [(0, 'beneath'), (1, 'sizes'), (2, 'node'), (3, 'part')]

abbrev s_piece_sizes : Stmt := topS 9

theorem sc_piece_sizes : FnScope ["beneath", "sizes", "node", "part"] ["beneath"] (defScope s_piece_sizes) := ⟨rfl, rfl, rfl, by decide +kernel, rfl, by decide +kernel, by decide +kernel⟩

section
variable {P : Program} {w : World} {K : PySem.W.Frag} {mg : Str → Option Value} {base : Heap}
theorem ok_piece_sizes {f : Addr} {fd : FuncData} (F : Fun K "piece_sizes" "piece_sizes" s_piece_sizes f fd) (T : Txt K mg) : FnOk P w K mg base CX0 1 f fd ["beneath"] (pureSp sp_piece_sizes) := by
  refine fn_pure (t := t_piece_sizes) F sc_piece_sizes (fun a b c h => len_piece_sizes h) (fun cdv A outer s H E hr => ?_) (fun a b c h => law_piece_sizes h)
  exact qss_cons (qs_set (i := 1) sc_piece_sizes.nd rfl (.inl rfl) (q_op o_mulM (q_lst (qa_cons (q_int) (qa_nil))) (q_callB c_len (by rfl) T.len_ bi_len (qa_cons (q_var 0) (qa_nil)))))
    (qss_cons (qs_for (vs := [2]) PassesOwn.never rfl (qi_revRange (by rfl) T.reversed_ (by rfl) T.range_ (q_callB c_len (by rfl) T.len_ bi_len (qa_cons (q_var 0) (qa_nil)))) (qg_name (i := 2) sc_piece_sizes.nd rfl (.inl rfl)) (qss_one (qs_for (vs := [3]) PassesOwn.never rfl (qi_seq (q_ix i_seq (q_var 0) (q_var 2))) (qg_name (i := 3) sc_piece_sizes.nd rfl (.inl rfl)) (qss_one (qs_augS (q_var 1) (q_var 2) p_getL (q_ix i_seq (q_var 1) (q_var 3)) p_addI p_setL)))))
    (qss_one (qs_ret (q_var 1))))
end


-- N = [(0, 'sign')]

abbrev s_a_begins : Stmt := topS 13

theorem sc_a_begins : FnScope ["sign"] ["sign"] (defScope s_a_begins) := ⟨rfl, rfl, rfl, by decide +kernel, rfl, by decide +kernel, by decide +kernel⟩

section
variable {P : Program} {w : World} {K : PySem.W.Frag} {mg : Str → Option Value} {base : Heap}
theorem ok_a_begins {f : Addr} {fd : FuncData} (F : Fun K "a_begins" "a_begins" s_a_begins f fd) (T : Txt K mg) : FnOk P w K mg base CX0 1 f fd ["sign"] (pureSp sp_a_begins) := by
  obtain ⟨tL, hL⟩ := T.A_LETTERS
  obtain ⟨tO, hO⟩ := T.A_OTHERS
  refine fn_pure (t := t_a_begins) F sc_a_begins (fun a b c h => len_a_begins h) (fun cdv A outer s H E hr => ?_) (fun a b c h => law_a_begins h)
  exact qss_one (qs_ret (q_cmp o_inStr (q_var 0) (q_globS (by rfl) hL) (by rfl)))
end


-- N = [(0, 'sign')]

abbrev s_a_goes_on : Stmt := topS 14

theorem sc_a_goes_on : FnScope ["sign"] ["sign"] (defScope s_a_goes_on) := ⟨rfl, rfl, rfl, by decide +kernel, rfl, by decide +kernel, by decide +kernel⟩

section
variable {P : Program} {w : World} {K : PySem.W.Frag} {mg : Str → Option Value} {base : Heap}
theorem ok_a_goes_on {f : Addr} {fd : FuncData} (F : Fun K "a_goes_on" "a_goes_on" s_a_goes_on f fd) (T : Txt K mg) : FnOk P w K mg base CX0 1 f fd ["sign"] (pureSp sp_a_goes_on) := by
  obtain ⟨tL, hL⟩ := T.A_LETTERS
  obtain ⟨tO, hO⟩ := T.A_OTHERS
  refine fn_pure (t := t_a_goes_on) F sc_a_goes_on (fun a b c h => len_a_goes_on h) (fun cdv A outer s H E hr => ?_) (fun a b c h => law_a_goes_on h)
  exact qss_one (qs_ret (q_or (q_cmp o_inStr (q_var 0) (q_globS (by rfl) hL) (by rfl)) (q_one (q_cmp o_inStr (q_var 0) (q_globS (by rfl) hO) (by rfl)))))
end


-- N = [(0, 'thing'), (1, 'sign')]

abbrev s_is_word : Stmt := topS 16

theorem sc_is_word : FnScope ["thing", "sign"] ["thing"] (defScope s_is_word) := ⟨rfl, rfl, rfl, by decide +kernel, rfl, by decide +kernel, by decide +kernel⟩

section
variable {P : Program} {w : World} {K : PySem.W.Frag} {mg : Str → Option Value} {base : Heap}
theorem ok_is_word {f : Addr} {fd : FuncData} (F : Fun K "is_word" "is_word" s_is_word f fd) (T : Txt K mg) {f_a_begins : Addr} {fd_a_begins : FuncData} (C_a_begins : Cal P w K mg base CX0 1 "a_begins" ["sign"] (pureSp sp_a_begins) f_a_begins fd_a_begins) {f_a_goes_on : Addr} {fd_a_goes_on : FuncData} (C_a_goes_on : Cal P w K mg base CX0 1 "a_goes_on" ["sign"] (pureSp sp_a_goes_on) f_a_goes_on fd_a_goes_on) : FnOk P w K mg base CX0 2 f fd ["thing"] (pureSp sp_is_word) := by
  refine fn_pure (t := t_is_word) F sc_is_word (fun a b c h => len_is_word h) (fun cdv A outer s H E hr => ?_) (fun a b c h => law_is_word h)
  exact qss_cons (qs_if (qt_not (qt_val (q_isi okTy_str (by rfl) T.isinstance_ bi_isinstance (by rfl) T.str_ bi_str (q_var 0)))) (qss_one (qs_ret (q_bl))) (qss_nil))
    (qss_cons (qs_if (qt_cmp (o_eq hr.units) (q_var 0) (q_str) (nomark _)) (qss_one (qs_ret (q_bl))) (qss_nil))
    (qss_cons (qs_if (PW.pt (qw_or (qt_not (qt_chain (o_le hr.units) (o_le hr.units) (q_int) (q_callB c_len (by rfl) T.len_ bi_len (qa_cons (q_var 0) (qa_nil))) (q_int))) (qw_or1 (qt_not (qt_val (q_callP C_a_begins.ok hr (by rfl) C_a_begins.mg C_a_begins.kp C_a_begins.b pass0 (qa_cons (q_ix i_str (q_var 0) (q_int)) (qa_nil)))))))) (qss_one (qs_ret (q_bl))) (qss_nil))
    (qss_one (qs_ret (q_callB (c_all rfl) (by rfl) T.all_ bi_all (qa_cons (q_lc (own := [("sign", 1)]) finL_ok rfl sc_is_word.nd (qi_str (q_var 0)) (blkOk_by (show blkC ["thing", "sign"] (defScope s_is_word) _ [("sign", 1)] = true from by decide +kernel)) (fun _ _ _ _ _ => qg_name (i := 1) sc_is_word.nd rfl (.inl rfl)) (fun _ _ _ _ _ => qts_nil) (fun _ _ _ _ _ => q_callP C_a_goes_on.ok hr (by rfl) C_a_goes_on.mg C_a_goes_on.kp C_a_goes_on.b pass0 (qa_cons (q_var 1) (qa_nil)))) (qa_nil)))))))
end


-- N = [(0, 'thing')]

abbrev s_a_is_count : Stmt := topS 17

theorem sc_a_is_count : FnScope ["thing"] ["thing"] (defScope s_a_is_count) := ⟨rfl, rfl, rfl, by decide +kernel, rfl, by decide +kernel, by decide +kernel⟩

section
variable {P : Program} {w : World} {K : PySem.W.Frag} {mg : Str → Option Value} {base : Heap}
theorem ok_a_is_count {f : Addr} {fd : FuncData} (F : Fun K "_a_is_count" "_a_is_count" s_a_is_count f fd) (T : Txt K mg) : FnOk P w K mg base CX0 1 f fd ["thing"] (pureSp sp_a_is_count) := by
  refine fn_pure (t := t_a_is_count) F sc_a_is_count (fun a b c h => len_a_is_count h) (fun cdv A outer s H E hr => ?_) (fun a b c h => law_a_is_count h)
  exact qss_one (qs_ret (q_and (q_isi okTy_int (by rfl) T.isinstance_ bi_isinstance (by rfl) T.int_ bi_int (q_var 0)) (q_and (q_not (q_isi okTy_bool (by rfl) T.isinstance_ bi_isinstance (by rfl) T.bool_ bi_bool (q_var 0))) (q_one (q_chain (o_le hr.units) (o_le hr.units) (q_int) (q_var 0) (q_int))))))
end


-- N = [(0, 'thing'), (1, 'word'), (2, 'many')]

abbrev s_is_symbol : Stmt := topS 18

theorem sc_is_symbol : FnScope ["thing", "word", "many"] ["thing"] (defScope s_is_symbol) := ⟨rfl, rfl, rfl, by decide +kernel, rfl, by decide +kernel, by decide +kernel⟩

section
variable {P : Program} {w : World} {K : PySem.W.Frag} {mg : Str → Option Value} {base : Heap}
theorem ok_is_symbol {f : Addr} {fd : FuncData} (F : Fun K "is_symbol" "is_symbol" s_is_symbol f fd) (T : Txt K mg) {f_is_word : Addr} {fd_is_word : FuncData} (C_is_word : Cal P w K mg base CX0 2 "is_word" ["thing"] (pureSp sp_is_word) f_is_word fd_is_word) {f_a_is_count : Addr} {fd_a_is_count : FuncData} (C_a_is_count : Cal P w K mg base CX0 1 "_a_is_count" ["thing"] (pureSp sp_a_is_count) f_a_is_count fd_a_is_count) : FnOk P w K mg base CX0 3 f fd ["thing"] (pureSp sp_is_symbol) := by
  refine fn_pure (t := t_is_symbol) F sc_is_symbol (fun a b c h => len_is_symbol h) (fun cdv A outer s H E hr => ?_) (fun a b c h => law_is_symbol h)
  exact qss_cons (qs_if (PW.pt (qw_or (qt_not (qt_val (q_isi okTy_tuple (by rfl) T.isinstance_ bi_isinstance (by rfl) T.tuple_ bi_tuple (q_var 0)))) (qw_or1 (qt_cmp (o_ne hr.units) (q_callB c_len (by rfl) T.len_ bi_len (qa_cons (q_var 0) (qa_nil))) (q_int) (nomark _))))) (qss_one (qs_ret (q_bl))) (qss_nil))
    (qss_cons (qs_asg (vs := [1, 2]) (q_var 0) (qg_tup rfl (qgs_cons (qg_name (i := 1) sc_is_symbol.nd rfl (.inl rfl)) (qgs_cons (qg_name (i := 2) sc_is_symbol.nd rfl (.inl rfl)) (qgs_nil)))))
    (qss_one (qs_ret (q_and (q_callP C_is_word.ok hr (by rfl) C_is_word.mg C_is_word.kp C_is_word.b pass0 (qa_cons (q_var 1) (qa_nil))) (q_and (q_callP C_a_is_count.ok (hr.mono (by decide)) (by rfl) C_a_is_count.mg C_a_is_count.kp C_a_is_count.b pass0 (qa_cons (q_var 2) (qa_nil))) (q_one (q_or (q_cmp (o_eq hr.units) (q_var 2) (q_int) (nomark _)) (q_one (q_cmp (o_ne hr.units) (q_var 1) (q_str) (nomark _))))))))))
end


-- N = [(0, 'thing'), (1, 'holes'), (2, 'need'), (3, 'symbol')]

abbrev s_a_is_row : Stmt := topS 20

theorem sc_a_is_row : FnScope ["thing", "holes", "need", "symbol"] ["thing", "holes"] (defScope s_a_is_row) := ⟨rfl, rfl, rfl, by decide +kernel, rfl, by decide +kernel, by decide +kernel⟩

section
variable {P : Program} {w : World} {K : PySem.W.Frag} {mg : Str → Option Value} {base : Heap}
theorem ok_a_is_row {f : Addr} {fd : FuncData} (F : Fun K "_a_is_row" "_a_is_row" s_a_is_row f fd) (T : Txt K mg) {f_is_symbol : Addr} {fd_is_symbol : FuncData} (C_is_symbol : Cal P w K mg base CX0 3 "is_symbol" ["thing"] (pureSp sp_is_symbol) f_is_symbol fd_is_symbol) : FnOk P w K mg base CX0 4 f fd ["thing", "holes"] (pureSp sp_a_is_row) := by
  refine fn_pure (t := t_a_is_row) F sc_a_is_row (fun a b c h => len_a_is_row h) (fun cdv A outer s H E hr => ?_) (fun a b c h => law_a_is_row h)
  exact qss_cons (qs_if (qt_not (qt_val (q_isi okTy_tuple (by rfl) T.isinstance_ bi_isinstance (by rfl) T.tuple_ bi_tuple (q_var 0)))) (qss_one (qs_ret (q_bl))) (qss_nil))
    (qss_cons (qs_set (i := 2) sc_a_is_row.nd rfl (.inl rfl) (q_int))
    (qss_cons (qs_for (vs := [3]) PassesOwn.never rfl (qi_seq (q_var 0)) (qg_name (i := 3) sc_a_is_row.nd rfl (.inl rfl)) (qss_cons (qs_if (qt_cmp (o_eq hr.units) (q_var 2) (q_int) (nomark _)) (qss_one (qs_ret (q_bl))) (qss_nil))
    (qss_cons (qs_if (PW.pt (qw_and (qt_not (qt_val (q_callP C_is_symbol.ok hr (by rfl) C_is_symbol.mg C_is_symbol.kp C_is_symbol.b pass0 (qa_cons (q_var 3) (qa_nil))))) (qw_and1 (qt_not (PW.pt (qw_and (qt_val (q_var 1)) (qw_and1 (qt_val (q_neverE))))))))) (qss_one (qs_ret (q_bl))) (qss_nil))
    (qss_one (qs_set (i := 2) sc_a_is_row.nd rfl (.inl rfl) (q_op o_sub (q_op o_add (q_var 2) (q_ix i_seq (q_var 3) (q_int))) (q_int)))))))
    (qss_one (qs_ret (q_cmp (o_eq hr.units) (q_var 2) (q_int) (nomark _))))))
end


-- N = [(0, 'thing')]

abbrev s_is_tree : Stmt := topS 21

theorem sc_is_tree : FnScope ["thing"] ["thing"] (defScope s_is_tree) := ⟨rfl, rfl, rfl, by decide +kernel, rfl, by decide +kernel, by decide +kernel⟩

section
variable {P : Program} {w : World} {K : PySem.W.Frag} {mg : Str → Option Value} {base : Heap}
theorem ok_is_tree {f : Addr} {fd : FuncData} (F : Fun K "is_tree" "is_tree" s_is_tree f fd) (T : Txt K mg) {f_a_is_row : Addr} {fd_a_is_row : FuncData} (C_a_is_row : Cal P w K mg base CX0 4 "_a_is_row" ["thing", "holes"] (pureSp sp_a_is_row) f_a_is_row fd_a_is_row) : FnOk P w K mg base CX0 5 f fd ["thing"] (pureSp sp_is_tree) := by
  refine fn_pure (t := t_is_tree) F sc_is_tree (fun a b c h => len_is_tree h) (fun cdv A outer s H E hr => ?_) (fun a b c h => law_is_tree h)
  exact qss_one (qs_ret (q_callP C_a_is_row.ok hr (by rfl) C_a_is_row.mg C_a_is_row.kp C_a_is_row.b pass0 (qa_cons (q_var 0) (qa_cons (q_bl) (qa_nil)))))
end


-- N = [(0, 'thing'), (1, 'entry')]

abbrev s_is_integer_pair : Stmt := topS 23

theorem sc_is_integer_pair : FnScope ["thing", "entry"] ["thing"] (defScope s_is_integer_pair) := ⟨rfl, rfl, rfl, by decide +kernel, rfl, by decide +kernel, by decide +kernel⟩

section
variable {P : Program} {w : World} {K : PySem.W.Frag} {mg : Str → Option Value} {base : Heap}
theorem ok_is_integer_pair {f : Addr} {fd : FuncData} (F : Fun K "is_integer_pair" "is_integer_pair" s_is_integer_pair f fd) (T : Txt K mg) : FnOk P w K mg base CX0 1 f fd ["thing"] (pureSp sp_is_integer_pair) := by
  refine fn_pure (t := t_is_integer_pair) F sc_is_integer_pair (fun a b c h => len_is_integer_pair h) (fun cdv A outer s H E hr => ?_) (fun a b c h => law_is_integer_pair h)
  exact qss_cons (qs_if (PW.pt (qw_or (qt_not (qt_val (q_isi okTy_tuple (by rfl) T.isinstance_ bi_isinstance (by rfl) T.tuple_ bi_tuple (q_var 0)))) (qw_or1 (qt_cmp (o_ne hr.units) (q_callB c_len (by rfl) T.len_ bi_len (qa_cons (q_var 0) (qa_nil))) (q_int) (nomark _))))) (qss_one (qs_ret (q_bl))) (qss_nil))
    (qss_one (qs_ret (q_callB (c_all rfl) (by rfl) T.all_ bi_all (qa_cons (q_lc (own := [("entry", 1)]) finL_ok rfl sc_is_integer_pair.nd (qi_seq (q_var 0)) (blkOk_by (show blkC ["thing", "entry"] (defScope s_is_integer_pair) _ [("entry", 1)] = true from by decide +kernel)) (fun _ _ _ _ _ => qg_name (i := 1) sc_is_integer_pair.nd rfl (.inl rfl)) (fun _ _ _ _ _ => qts_nil) (fun _ _ _ _ _ => q_and (q_isi okTy_int (by rfl) T.isinstance_ bi_isinstance (by rfl) T.int_ bi_int (q_var 1)) (q_one (q_not (q_isi okTy_bool (by rfl) T.isinstance_ bi_isinstance (by rfl) T.bool_ bi_bool (q_var 1)))))) (qa_nil)))))
end


-- N = [(0, 'thing'), (1, 'many'), (2, 'entry')]

abbrev s_is_pair_row : Stmt := topS 24

theorem sc_is_pair_row : FnScope ["thing", "many", "entry"] ["thing", "many"] (defScope s_is_pair_row) := ⟨rfl, rfl, rfl, by decide +kernel, rfl, by decide +kernel, by decide +kernel⟩

section
variable {P : Program} {w : World} {K : PySem.W.Frag} {mg : Str → Option Value} {base : Heap}
theorem ok_is_pair_row {f : Addr} {fd : FuncData} (F : Fun K "is_pair_row" "is_pair_row" s_is_pair_row f fd) (T : Txt K mg) {f_is_integer_pair : Addr} {fd_is_integer_pair : FuncData} (C_is_integer_pair : Cal P w K mg base CX0 1 "is_integer_pair" ["thing"] (pureSp sp_is_integer_pair) f_is_integer_pair fd_is_integer_pair) : FnOk P w K mg base CX0 2 f fd ["thing", "many"] (pureSp sp_is_pair_row) := by
  refine fn_pure (t := t_is_pair_row) F sc_is_pair_row (fun a b c h => len_is_pair_row h) (fun cdv A outer s H E hr => ?_) (fun a b c h => law_is_pair_row h)
  exact qss_cons (qs_if (PW.pt (qw_or (qt_not (qt_val (q_isi okTy_tuple (by rfl) T.isinstance_ bi_isinstance (by rfl) T.tuple_ bi_tuple (q_var 0)))) (qw_or1 (qt_cmp (o_ne hr.units) (q_callB c_len (by rfl) T.len_ bi_len (qa_cons (q_var 0) (qa_nil))) (q_var 1) (nomark _))))) (qss_one (qs_ret (q_bl))) (qss_nil))
    (qss_one (qs_ret (q_callB (c_all rfl) (by rfl) T.all_ bi_all (qa_cons (q_lc (own := [("entry", 2)]) finL_ok rfl sc_is_pair_row.nd (qi_seq (q_var 0)) (blkOk_by (show blkC ["thing", "many", "entry"] (defScope s_is_pair_row) _ [("entry", 2)] = true from by decide +kernel)) (fun _ _ _ _ _ => qg_name (i := 2) sc_is_pair_row.nd rfl (.inl rfl)) (fun _ _ _ _ _ => qts_nil) (fun _ _ _ _ _ => q_callP C_is_integer_pair.ok hr (by rfl) C_is_integer_pair.mg C_is_integer_pair.kp C_is_integer_pair.b pass0 (qa_cons (q_var 2) (qa_nil)))) (qa_nil)))))
end


-- N = [(0, 'thing'), (1, 'names'), (2, 'nodes'), (3, 'row')]

abbrev s_is_sheet : Stmt := topS 25

theorem sc_is_sheet : FnScope ["thing", "names", "nodes", "row"] ["thing", "names", "nodes"] (defScope s_is_sheet) := ⟨rfl, rfl, rfl, by decide +kernel, rfl, by decide +kernel, by decide +kernel⟩

section
variable {P : Program} {w : World} {K : PySem.W.Frag} {mg : Str → Option Value} {base : Heap}
theorem ok_is_sheet {f : Addr} {fd : FuncData} (F : Fun K "is_sheet" "is_sheet" s_is_sheet f fd) (T : Txt K mg) {f_is_pair_row : Addr} {fd_is_pair_row : FuncData} (C_is_pair_row : Cal P w K mg base CX0 2 "is_pair_row" ["thing", "many"] (pureSp sp_is_pair_row) f_is_pair_row fd_is_pair_row) : FnOk P w K mg base CX0 3 f fd ["thing", "names", "nodes"] (pureSp sp_is_sheet) := by
  refine fn_pure (t := t_is_sheet) F sc_is_sheet (fun a b c h => len_is_sheet h) (fun cdv A outer s H E hr => ?_) (fun a b c h => law_is_sheet h)
  exact qss_cons (qs_if (PW.pt (qw_or (qt_not (qt_val (q_isi okTy_tuple (by rfl) T.isinstance_ bi_isinstance (by rfl) T.tuple_ bi_tuple (q_var 0)))) (qw_or (qt_cmp (o_ne hr.units) (q_callB c_len (by rfl) T.len_ bi_len (qa_cons (q_var 0) (qa_nil))) (q_int) (nomark _)) (qw_or1 (qt_not (qt_val (q_callP C_is_pair_row.ok hr (by rfl) C_is_pair_row.mg C_is_pair_row.kp C_is_pair_row.b pass0 (qa_cons (q_ix i_seq (q_var 0) (q_int)) (qa_cons (q_var 1) (qa_nil)))))))))) (qss_one (qs_ret (q_bl))) (qss_nil))
    (qss_cons (qs_if (PW.pt (qw_or (qt_not (qt_val (q_isi okTy_tuple (by rfl) T.isinstance_ bi_isinstance (by rfl) T.tuple_ bi_tuple (q_ix i_seq (q_var 0) (q_int))))) (qw_or1 (qt_cmp (o_ne hr.units) (q_callB c_len (by rfl) T.len_ bi_len (qa_cons (q_ix i_seq (q_var 0) (q_int)) (qa_nil))) (q_var 2) (nomark _))))) (qss_one (qs_ret (q_bl))) (qss_nil))
    (qss_one (qs_ret (q_callB (c_all rfl) (by rfl) T.all_ bi_all (qa_cons (q_lc (own := [("row", 3)]) finL_ok rfl sc_is_sheet.nd (qi_seq (q_ix i_seq (q_var 0) (q_int))) (blkOk_by (show blkC ["thing", "names", "nodes", "row"] (defScope s_is_sheet) _ [("row", 3)] = true from by decide +kernel)) (fun _ _ _ _ _ => qg_name (i := 3) sc_is_sheet.nd rfl (.inl rfl)) (fun _ _ _ _ _ => qts_nil) (fun _ _ _ _ _ => q_callP C_is_pair_row.ok hr (by rfl) C_is_pair_row.mg C_is_pair_row.kp C_is_pair_row.b pass0 (qa_cons (q_var 3) (qa_cons (q_var 1) (qa_nil))))) (qa_nil))))))
end


-- N = [(0, 'first'), (1, 'pairs'), (2, 'pair')]

abbrev s_added_pairs : Stmt := topS 26

theorem sc_added_pairs : FnScope ["first", "pairs", "pair"] ["first", "pairs"] (defScope s_added_pairs) := ⟨rfl, rfl, rfl, by decide +kernel, rfl, by decide +kernel, by decide +kernel⟩

section
variable {P : Program} {w : World} {K : PySem.W.Frag} {mg : Str → Option Value} {base : Heap}
theorem ok_added_pairs {f : Addr} {fd : FuncData} (F : Fun K "added_pairs" "added_pairs" s_added_pairs f fd) (T : Txt K mg) : FnOk P w K mg base CX0 1 f fd ["first", "pairs"] (pureSp sp_added_pairs) := by
  refine fn_pure (t := t_added_pairs) F sc_added_pairs (fun a b c h => len_added_pairs h) (fun cdv A outer s H E hr => ?_) (fun a b c h => law_added_pairs h)
  exact qss_one (qs_ret (q_tup (qa_cons (q_op o_add (q_ix i_seq (q_var 0) (q_int)) (q_callB (c_sum rfl) (by rfl) T.sum_ bi_sum (qa_cons (q_lc (own := [("pair", 2)]) finL_ok rfl sc_added_pairs.nd (qi_seq (q_var 1)) (blkOk_by (show blkC ["first", "pairs", "pair"] (defScope s_added_pairs) _ [("pair", 2)] = true from by decide +kernel)) (fun _ _ _ _ _ => qg_name (i := 2) sc_added_pairs.nd rfl (.inl rfl)) (fun _ _ _ _ _ => qts_nil) (fun _ _ _ _ _ => q_ix i_seq (q_var 2) (q_int))) (qa_nil)))) (qa_cons (q_op o_add (q_ix i_seq (q_var 0) (q_int)) (q_callB (c_sum rfl) (by rfl) T.sum_ bi_sum (qa_cons (q_lc (own := [("pair", 2)]) finL_ok rfl sc_added_pairs.nd (qi_seq (q_var 1)) (blkOk_by (show blkC ["first", "pairs", "pair"] (defScope s_added_pairs) _ [("pair", 2)] = true from by decide +kernel)) (fun _ _ _ _ _ => qg_name (i := 2) sc_added_pairs.nd rfl (.inl rfl)) (fun _ _ _ _ _ => qts_nil) (fun _ _ _ _ _ => q_ix i_seq (q_var 2) (q_int))) (qa_nil)))) (qa_nil)))))
end


-- N = [(0, 'rule'), (1, 'symbol'), (2, 'size'), (3, 'pair'), (4, 'row'), (5, 'lower'), (6, 'result'), (7, 'word'), (8, 'parts'), (9, 'part'), (10, 'table')]

abbrev s_keeps_floor : Stmt := topS 27

theorem sc_keeps_floor : FnScope ["rule", "symbol", "size", "pair", "row", "lower", "result", "word", "parts", "part", "table"] ["rule", "symbol", "size", "pair", "row", "lower"] (defScope s_keeps_floor) := ⟨rfl, rfl, rfl, by decide +kernel, rfl, by decide +kernel, by decide +kernel⟩

section
variable {P : Program} {w : World} {K : PySem.W.Frag} {mg : Str → Option Value} {base : Heap}
theorem ok_keeps_floor {f : Addr} {fd : FuncData} (F : Fun K "keeps_floor" "keeps_floor" s_keeps_floor f fd) (T : Txt K mg) {f_added_pairs : Addr} {fd_added_pairs : FuncData} (C_added_pairs : Cal P w K mg base CX0 1 "added_pairs" ["first", "pairs"] (pureSp sp_added_pairs) f_added_pairs fd_added_pairs) : FnOk P w K mg base CX0 2 f fd ["rule", "symbol", "size", "pair", "row", "lower"] (pureSp sp_keeps_floor) := by
  refine fn_pure (t := t_keeps_floor) F sc_keeps_floor (fun a b c h => len_keeps_floor h) (fun cdv A outer s H E hr => ?_) (fun a b c h => law_keeps_floor h)
  exact qss_cons (qs_asg (vs := [6, 7, 8]) (q_var 0) (qg_tup rfl (qgs_cons (qg_name (i := 6) sc_keeps_floor.nd rfl (.inl rfl)) (qgs_cons (qg_name (i := 7) sc_keeps_floor.nd rfl (.inl rfl)) (qgs_cons (qg_name (i := 8) sc_keeps_floor.nd rfl (.inl rfl)) (qgs_nil))))))
    (qss_cons (qs_if (qt_cmp (o_eq hr.units) (q_tup (qa_cons (q_var 7) (qa_cons (q_callB c_len (by rfl) T.len_ bi_len (qa_cons (q_var 8) (qa_nil))) (qa_nil)))) (q_var 1) (nomark _)) (qss_one (qs_ret (q_cmp (o_le hr.units) (q_var 3) (q_callP C_added_pairs.ok hr (by rfl) C_added_pairs.mg C_added_pairs.kp C_added_pairs.b pass0 (qa_cons (q_tup (qa_cons (q_int) (qa_cons (q_int) (qa_nil)))) (qa_cons (q_lc (own := [("table", 10), ("part", 9)]) finL_ok rfl sc_keeps_floor.nd (qi_zip (by rfl) T.zip_ (q_var 5) (q_var 8)) (blkOk_by (show blkC ["rule", "symbol", "size", "pair", "row", "lower", "result", "word", "parts", "part", "table"] (defScope s_keeps_floor) _ [("table", 10), ("part", 9)] = true from by decide +kernel)) (fun _ _ _ _ _ => qg_tup rfl (qgs_cons (qg_name (i := 10) sc_keeps_floor.nd rfl (.inl rfl)) (qgs_cons (qg_name (i := 9) sc_keeps_floor.nd rfl (.inl rfl)) (qgs_nil)))) (fun _ _ _ _ _ => qts_nil) (fun _ _ _ _ _ => q_ix i_seq (q_var 10) (q_var 9))) (qa_nil)))) (nomark _)))) (qss_nil))
    (qss_one (qs_ret (q_cmp (o_le hr.units) (q_var 3) (q_callP C_added_pairs.ok hr (by rfl) C_added_pairs.mg C_added_pairs.kp C_added_pairs.b pass0 (qa_cons (q_tup (qa_cons (q_op o_add (q_var 2) (q_int)) (qa_cons (q_int) (qa_nil)))) (qa_cons (q_lc (own := [("part", 9)]) finL_ok rfl sc_keeps_floor.nd (qi_seq (q_var 8)) (blkOk_by (show blkC ["rule", "symbol", "size", "pair", "row", "lower", "result", "word", "parts", "part", "table"] (defScope s_keeps_floor) _ [("part", 9)] = true from by decide +kernel)) (fun _ _ _ _ _ => qg_name (i := 9) sc_keeps_floor.nd rfl (.inl rfl)) (fun _ _ _ _ _ => qts_nil) (fun _ _ _ _ _ => q_ix i_seq (q_var 4) (q_var 9))) (qa_nil)))) (nomark _)))))
end


-- N = [(0, 'driven'), (1, 'tree'), (2, 'thing'), (3, 'names'), (4, 'starts'), (5, 'rules'), (6, 'z'), (7, 'h'), (8, 'number'), (9, 'result'), (10, 'word'), (11, 'parts'), (12, 'beneath'), (13, 'sizes'), (14, 'node'), (15, 'symbol'), (16, 'lower'), (17, 'rule'), (18, 'part'), (19, 'start')]

abbrev s_lets_floors : Stmt := topS 28

theorem sc_lets_floors : FnScope ["driven", "tree", "thing", "names", "starts", "rules", "z", "h", "number", "result", "word", "parts", "beneath", "sizes", "node", "symbol", "lower", "rule", "part", "start"] ["driven", "tree", "thing"] (defScope s_lets_floors) := ⟨rfl, rfl, rfl, by decide +kernel, rfl, by decide +kernel, by decide +kernel⟩

section
variable {P : Program} {w : World} {K : PySem.W.Frag} {mg : Str → Option Value} {base : Heap}
theorem ok_lets_floors {f : Addr} {fd : FuncData} (F : Fun K "lets_floors" "lets_floors" s_lets_floors f fd) (T : Txt K mg) {f_is_tree : Addr} {fd_is_tree : FuncData} (C_is_tree : Cal P w K mg base CX0 5 "is_tree" ["thing"] (pureSp sp_is_tree) f_is_tree fd_is_tree) {f_is_sheet : Addr} {fd_is_sheet : FuncData} (C_is_sheet : Cal P w K mg base CX0 3 "is_sheet" ["thing", "names", "nodes"] (pureSp sp_is_sheet) f_is_sheet fd_is_sheet) {f_added_pairs : Addr} {fd_added_pairs : FuncData} (C_added_pairs : Cal P w K mg base CX0 1 "added_pairs" ["first", "pairs"] (pureSp sp_added_pairs) f_added_pairs fd_added_pairs) {f_nodes_beneath : Addr} {fd_nodes_beneath : FuncData} (C_nodes_beneath : Cal P w K mg base CX0 1 "nodes_beneath" ["tree"] (pureSp sp_nodes_beneath) f_nodes_beneath fd_nodes_beneath) {f_piece_sizes : Addr} {fd_piece_sizes : FuncData} (C_piece_sizes : Cal P w K mg base CX0 1 "piece_sizes" ["beneath"] (pureSp sp_piece_sizes) f_piece_sizes fd_piece_sizes) {f_keeps_floor : Addr} {fd_keeps_floor : FuncData} (C_keeps_floor : Cal P w K mg base CX0 2 "keeps_floor" ["rule", "symbol", "size", "pair", "row", "lower"] (pureSp sp_keeps_floor) f_keeps_floor fd_keeps_floor) {fI_InvalidPaper : Addr} {fd_InvalidPaper : FuncData} (T_InvalidPaper : Rai P w K mg base "InvalidPaper" C_InvalidPaper fI_InvalidPaper fd_InvalidPaper) {fI_NotUsable : Addr} {fd_NotUsable : FuncData} (T_NotUsable : Rai P w K mg base "NotUsable" C_NotUsable fI_NotUsable fd_NotUsable) : FnOk P w K mg base (L2N.CX P w) 6 f fd ["driven", "tree", "thing"] (pureSp (sp_lets_floors C_NotUsable C_InvalidPaper)) := by
  refine fn_pureX (t := t_lets_floors C_NotUsable C_InvalidPaper) F sc_lets_floors (fun a b c h => len_lets_floors h) (fun cdv A outer s H E hr => ?_) (fun a b c h => law_lets_floors h)
  exact qss_cons (qs_if (qt_not (qt_val (q_callP C_is_tree.ok hr (by rfl) C_is_tree.mg C_is_tree.kp C_is_tree.b pass0 (qa_cons (q_var 1) (qa_nil))))) (qss_one (qs_raise rfl T_NotUsable (hr.mono (by decide)) (by rfl) (qa_cons (q_str) (qa_cons (q_neg (q_int)) (qa_nil))))) (qss_nil))
    (qss_cons (qs_asg (vs := [3, 4, 5]) (q_var 0) (qg_tup rfl (qgs_cons (qg_name (i := 3) sc_lets_floors.nd rfl (.inl rfl)) (qgs_cons (qg_name (i := 4) sc_lets_floors.nd rfl (.inl rfl)) (qgs_cons (qg_name (i := 5) sc_lets_floors.nd rfl (.inl rfl)) (qgs_nil))))))
    (qss_cons (qs_if (qt_not (qt_val (q_callP C_is_sheet.ok (hr.mono (by decide)) (by rfl) C_is_sheet.mg C_is_sheet.kp C_is_sheet.b pass0 (qa_cons (q_var 2) (qa_cons (q_var 3) (qa_cons (q_callB c_len (by rfl) T.len_ bi_len (qa_cons (q_var 1) (qa_nil))) (qa_nil))))))) (qss_one (qs_raise rfl T_InvalidPaper (hr.mono (by decide)) (by rfl) (qa_cons (q_str) (qa_cons (q_neg (q_int)) (qa_nil))))) (qss_nil))
    (qss_cons (qs_asg (vs := [6, 7]) (q_var 2) (qg_tup rfl (qgs_cons (qg_name (i := 6) sc_lets_floors.nd rfl (.inr rfl)) (qgs_cons (qg_name (i := 7) sc_lets_floors.nd rfl (.inr rfl)) (qgs_nil)))))
    (qss_cons (qs_for (vs := [8, 9, 10, 11]) (passes_of rfl) rfl (qi_enum (by rfl) T.enumerate_ (q_var 5)) (qg_tup rfl (qgs_cons (qg_name (i := 8) sc_lets_floors.nd rfl (.inl rfl)) (qgs_cons (qg_tup rfl (qgs_cons (qg_name (i := 9) sc_lets_floors.nd rfl (.inl rfl)) (qgs_cons (qg_name (i := 10) sc_lets_floors.nd rfl (.inl rfl)) (qgs_cons (qg_name (i := 11) sc_lets_floors.nd rfl (.inl rfl)) (qgs_nil))))) (qgs_nil)))) (qss_one (qs_if (qt_cmp (o_gt hr.units) (q_ix i_seq (q_var 6) (q_var 9)) (q_callP C_added_pairs.ok (hr.mono (by decide)) (by rfl) C_added_pairs.mg C_added_pairs.kp C_added_pairs.b pass0 (qa_cons (q_tup (qa_cons (q_int) (qa_cons (q_int) (qa_nil)))) (qa_cons (q_lc (own := [("part", 18)]) finL_ok rfl sc_lets_floors.nd (qi_seq (q_var 11)) (blkOk_by (show blkC ["driven", "tree", "thing", "names", "starts", "rules", "z", "h", "number", "result", "word", "parts", "beneath", "sizes", "node", "symbol", "lower", "rule", "part", "start"] (defScope s_lets_floors) _ [("part", 18)] = true from by decide +kernel)) (fun _ _ _ _ _ => qg_name (i := 18) sc_lets_floors.nd rfl (.inl rfl)) (fun _ _ _ _ _ => qts_nil) (fun _ _ _ _ _ => q_ix i_seq (q_var 6) (q_var 18))) (qa_nil)))) (nomark _)) (qss_one (qs_raise rfl T_InvalidPaper (hr.mono (by decide)) (by rfl) (qa_cons (q_str) (qa_cons (q_var 8) (qa_nil))))) (qss_nil))))
    (qss_cons (qs_set (i := 12) sc_lets_floors.nd rfl (.inl rfl) (q_callP C_nodes_beneath.ok (hr.mono (by decide)) (by rfl) C_nodes_beneath.mg C_nodes_beneath.kp C_nodes_beneath.b pass0 (qa_cons (q_var 1) (qa_nil))))
    (qss_cons (qs_set (i := 13) sc_lets_floors.nd rfl (.inl rfl) (q_callP C_piece_sizes.ok (hr.mono (by decide)) (by rfl) C_piece_sizes.mg C_piece_sizes.kp C_piece_sizes.b pass0 (qa_cons (q_var 12) (qa_nil))))
    (qss_cons (qs_for (vs := [14, 15]) (passes_of rfl) rfl (qi_enum (by rfl) T.enumerate_ (q_var 1)) (qg_tup rfl (qgs_cons (qg_name (i := 14) sc_lets_floors.nd rfl (.inl rfl)) (qgs_cons (qg_name (i := 15) sc_lets_floors.nd rfl (.inl rfl)) (qgs_nil)))) (qss_cons (qs_setLc (i := 16) (own := [("part", 18)]) finL_ok rfl sc_lets_floors.nd rfl rfl (sw_true rfl rfl rfl (by decide +kernel)) (qi_seq (q_ix i_seq (q_var 12) (q_var 14))) (blkOk_by (show blkC ["driven", "tree", "thing", "names", "starts", "rules", "z", "h", "number", "result", "word", "parts", "beneath", "sizes", "node", "symbol", "lower", "rule", "part", "start"] (defScope s_lets_floors) _ [("part", 18)] = true from by decide +kernel)) (fun _ _ _ _ _ => qg_name (i := 18) sc_lets_floors.nd rfl (.inl rfl)) (fun _ _ _ _ _ => qts_nil) (fun _ _ _ _ _ => q_ix i_seq (q_var 7) (q_var 18)))
    (qss_one (qs_for (vs := [17]) (passes_of rfl) rfl (qi_seq (q_var 5)) (qg_name (i := 17) sc_lets_floors.nd rfl (.inl rfl)) (qss_one (qs_if (qt_not (qt_val (q_callP C_keeps_floor.ok (hr.mono (by decide)) (by rfl) C_keeps_floor.mg C_keeps_floor.kp C_keeps_floor.b pass0 (qa_cons (q_var 17) (qa_cons (q_var 15) (qa_cons (q_ix i_seq (q_var 13) (q_var 14)) (qa_cons (q_ix i_seq (q_ix i_seq (q_var 7) (q_var 14)) (q_ix i_seq (q_var 17) (q_int))) (qa_cons (q_var 6) (qa_cons (q_var 16) (qa_nil)))))))))) (qss_one (qs_raise rfl T_InvalidPaper (hr.mono (by decide)) (by rfl) (qa_cons (q_str) (qa_cons (q_var 14) (qa_nil))))) (qss_nil)))))))
    (qss_one (qs_ret (q_callB (c_min rfl hr.units) (by rfl) T.min_ bi_min (qa_cons (q_lc (own := [("start", 19)]) finL_ok rfl sc_lets_floors.nd (qi_seq (q_var 4)) (blkOk_by (show blkC ["driven", "tree", "thing", "names", "starts", "rules", "z", "h", "number", "result", "word", "parts", "beneath", "sizes", "node", "symbol", "lower", "rule", "part", "start"] (defScope s_lets_floors) _ [("start", 19)] = true from by decide +kernel)) (fun _ _ _ _ _ => qg_name (i := 19) sc_lets_floors.nd rfl (.inl rfl)) (fun _ _ _ _ _ => qts_nil) (fun _ _ _ _ _ => q_ix i_seq (q_ix i_seq (q_var 7) (q_int)) (q_var 19))) (qa_nil))))))))))))
end


-- N = [(0, 'rules'), (1, 'lacking'), (2, 'users'), (3, 'queue'), (4, 'result'), (5, 'word'), (6, 'parts'), (7, 'found'), (8, '_'), (9, 'tree'), (10, 'name'), (11, 'number'), (12, 'row'), (13, 'part')]

abbrev s_settled_trees : Stmt := topS 30

theorem sc_settled_trees : FnScope ["rules", "lacking", "users", "queue", "result", "word", "parts", "found", "_", "tree", "name", "number", "row", "part"] ["rules"] (defScope s_settled_trees) := ⟨rfl, rfl, rfl, by decide +kernel, rfl, by decide +kernel, by decide +kernel⟩

section
variable {P : Program} {w : World} {K : PySem.W.Frag} {mg : Str → Option Value} {base : Heap}
theorem ok_settled_trees {f : Addr} {fd : FuncData} (F : Fun K "settled_trees" "settled_trees" s_settled_trees f fd) (T : Txt K mg) {f_users_of : Addr} {fd_users_of : FuncData} (C_users_of : Cal P w K mg base CX0 1 "_users_of" ["rules"] (memSp sp_users_of) f_users_of fd_users_of) : FnOk P w K mg base CX0 2 f fd ["rules"] (memSp sp_settled_trees) := by
  refine fn_mem (t := t_settled_trees) F sc_settled_trees (fun a b c h => len_settled_trees h) (fun cdv A outer s H E hr => ?_) (fun a b c h => law_settled_trees h)
  exact qss_cons (qs_par3 rfl sc_settled_trees.nd rfl rfl rfl (by decide) (by decide) (by decide) rfl rfl rfl (qa_cons (q_lstM (qa_nil)) (qa_cons (q_callM C_users_of.ok hr (by rfl) C_users_of.mg C_users_of.kp C_users_of.b pass0 (qa_cons (q_var 0) (qa_nil))) (qa_cons (q_lstM (qa_nil)) (qa_nil)))) (by rfl))
    (qss_cons (qs_for (vs := [4, 5, 6]) PassesOwn.never rfl (qi_seq (q_var 0)) (qg_tup rfl (qgs_cons (qg_name (i := 4) sc_settled_trees.nd rfl (.inl rfl)) (qgs_cons (qg_name (i := 5) sc_settled_trees.nd rfl (.inl rfl)) (qgs_cons (qg_name (i := 6) sc_settled_trees.nd rfl (.inl rfl)) (qgs_nil))))) (qss_cons (qs_expr (q_meth PySem.F.slot_list_append PySem.F.type_list_append m_append (q_var 1) (qa_cons (q_lenSet rfl (by rfl) T.len_ bi_len (by rfl) T.set_ bi_set (q_var 6)) (qa_nil))))
    (qss_one (qs_if (qt_not (qt_truth (q_var 6))) (qss_one (qs_expr (q_callG (c_push hr.units) (by rfl) T.heappush_ (qa_cons (q_var 3) (qa_cons (q_tup (qa_cons (q_int) (qa_cons (q_tup (qa_cons (q_tup (qa_cons (q_var 5) (qa_cons (q_int) (qa_nil)))) (qa_nil))) (qa_cons (q_var 4) (qa_nil))))) (qa_nil)))))) (qss_nil)))))
    (qss_cons (qs_set (i := 7) sc_settled_trees.nd rfl (.inl rfl) (q_newDct))
    (qss_cons (qs_while PassesOwn.never (qt_truth (q_var 3)) (qss_cons (qs_asg (vs := [8, 9, 10]) (q_callG (c_pop hr.units) (by rfl) T.heappop_ (qa_cons (q_var 3) (qa_nil))) (qg_tup rfl (qgs_cons (qg_name (i := 8) sc_settled_trees.nd rfl (.inl rfl)) (qgs_cons (qg_name (i := 9) sc_settled_trees.nd rfl (.inl rfl)) (qgs_cons (qg_name (i := 10) sc_settled_trees.nd rfl (.inl rfl)) (qgs_nil))))))
    (qss_cons (qs_if (qt_cmp (o_inDct hr.units) (q_var 10) (q_var 7) (by rfl)) (qss_one (qs_continue)) (qss_nil))
    (qss_cons (qs_asg (vs := []) (q_var 9) (qg_sub (q_var 7) (q_var 10) (p_setDct hr.units)))
    (qss_one (qs_for (vs := [11]) PassesOwn.never rfl (qi_seq (q_get2 hr.units (q_var 2) (q_var 10) (q_lst (qa_nil)))) (qg_name (i := 11) sc_settled_trees.nd rfl (.inl rfl)) (qss_cons (qs_augS (q_var 1) (q_var 11) p_getL (q_int) p_subI p_setL)
    (qss_cons (qs_asg (vs := [4, 5, 6]) (q_ix i_seq (q_var 0) (q_var 11)) (qg_tup rfl (qgs_cons (qg_name (i := 4) sc_settled_trees.nd rfl (.inl rfl)) (qgs_cons (qg_name (i := 5) sc_settled_trees.nd rfl (.inl rfl)) (qgs_cons (qg_name (i := 6) sc_settled_trees.nd rfl (.inl rfl)) (qgs_nil))))))
    (qss_one (qs_if (PW.pt (qw_and (qt_cmp (o_eq hr.units) (q_ix i_seq (q_var 1) (q_var 11)) (q_int) (nomark _)) (qw_and1 (qt_cmp (o_ninDct hr.units) (q_var 4) (q_var 7) (by rfl))))) (qss_cons (qs_set (i := 12) sc_settled_trees.nd rfl (.inl rfl) (q_tup (qa_cons (q_tup (qa_cons (q_var 5) (qa_cons (q_callB c_len (by rfl) T.len_ bi_len (qa_cons (q_var 6) (qa_nil))) (qa_nil)))) (qa_nil))))
    (qss_cons (qs_for (vs := [13]) PassesOwn.never rfl (qi_seq (q_var 6)) (qg_name (i := 13) sc_settled_trees.nd rfl (.inl rfl)) (qss_one (qs_set (i := 12) sc_settled_trees.nd rfl (.inl rfl) (q_op o_add (q_var 12) (q_getDct hr.units (q_var 7) (q_var 13))))))
    (qss_one (qs_expr (q_callG (c_push hr.units) (by rfl) T.heappush_ (qa_cons (q_var 3) (qa_cons (q_tup (qa_cons (q_callB c_len (by rfl) T.len_ bi_len (qa_cons (q_var 12) (qa_nil))) (qa_cons (q_var 12) (qa_cons (q_var 4) (qa_nil))))) (qa_nil)))))))) (qss_nil)))))))))))
    (qss_one (qs_ret (q_var 7))))))
end


-- N = [(0, 'rules'), (1, 'users'), (2, 'number'), (3, 'rule'), (4, 'part')]

abbrev s_users_of : Stmt := topS 31

theorem sc_users_of : FnScope ["rules", "users", "number", "rule", "part"] ["rules"] (defScope s_users_of) := ⟨rfl, rfl, rfl, by decide +kernel, rfl, by decide +kernel, by decide +kernel⟩

section
variable {P : Program} {w : World} {K : PySem.W.Frag} {mg : Str → Option Value} {base : Heap}
theorem ok_users_of {f : Addr} {fd : FuncData} (F : Fun K "_users_of" "_users_of" s_users_of f fd) (T : Txt K mg) : FnOk P w K mg base CX0 1 f fd ["rules"] (memSp sp_users_of) := by
  refine fn_mem (t := t_users_of) F sc_users_of (fun a b c h => len_users_of h) (fun cdv A outer s H E hr => ?_) (fun a b c h => law_users_of h)
  exact qss_cons (qs_set (i := 1) sc_users_of.nd rfl (.inl rfl) (q_newDct))
    (qss_cons (qs_for (vs := [2, 3]) PassesOwn.never rfl (qi_enum (by rfl) T.enumerate_ (q_var 0)) (qg_tup rfl (qgs_cons (qg_name (i := 2) sc_users_of.nd rfl (.inl rfl)) (qgs_cons (qg_name (i := 3) sc_users_of.nd rfl (.inl rfl)) (qgs_nil)))) (qss_one (qs_for (vs := [4]) PassesOwn.never rfl (qi_seq (q_sortSet rfl (by rfl) T.sorted_ bi_sorted (by rfl) T.set_ bi_set (q_ix i_seq (q_var 3) (q_int)))) (qg_name (i := 4) sc_users_of.nd rfl (.inl rfl)) (qss_one (qs_expr (q_meth PySem.F.slot_list_append PySem.F.type_list_append m_append (q_setd (q_var 1) (q_var 4) (q_lstM (qa_nil))) (qa_cons (q_var 2) (qa_nil))))))))
    (qss_one (qs_ret (q_var 1))))
end


-- N = [(0, 'grammar'), (1, 'found'), (2, 'name')]

abbrev s_least_trees : Stmt := topS 33

theorem sc_least_trees : FnScope ["grammar", "found", "name"] ["grammar"] (defScope s_least_trees) := ⟨rfl, rfl, rfl, by decide +kernel, rfl, by decide +kernel, by decide +kernel⟩

section
variable {P : Program} {w : World} {K : PySem.W.Frag} {mg : Str → Option Value} {base : Heap}
theorem ok_least_trees {f : Addr} {fd : FuncData} (F : Fun K "least_trees" "least_trees" s_least_trees f fd) (T : Txt K mg) {f_settled_trees : Addr} {fd_settled_trees : FuncData} (C_settled_trees : Cal P w K mg base CX0 2 "settled_trees" ["rules"] (memSp sp_settled_trees) f_settled_trees fd_settled_trees) : FnOk P w K mg base CX0 3 f fd ["grammar"] (pureSp sp_least_trees) := by
  refine fn_pure (t := t_least_trees) F sc_least_trees (fun a b c h => len_least_trees h) (fun cdv A outer s H E hr => ?_) (fun a b c h => law_least_trees h)
  exact qss_cons (qs_set (i := 1) sc_least_trees.nd rfl (.inr rfl) (q_callM C_settled_trees.ok hr (by rfl) C_settled_trees.mg C_settled_trees.kp C_settled_trees.b pass0 (qa_cons (q_ix i_seq (q_var 0) (q_int)) (qa_nil))))
    (qss_one (qs_ret (q_callTy c_tuple (by rfl) T.tuple_ bi_tuple (qa_cons (q_lc (own := [("name", 2)]) finL_ok rfl sc_least_trees.nd (qi_range (by rfl) T.range_ (q_ix i_seq (q_var 0) (q_int))) (blkOk_by (show blkC ["grammar", "found", "name"] (defScope s_least_trees) _ [("name", 2)] = true from by decide +kernel)) (fun _ _ _ _ _ => qg_name (i := 2) sc_least_trees.nd rfl (.inl rfl)) (fun _ _ _ _ _ => qts_nil) (fun _ _ _ _ _ => q_get1 hr.units (q_var 1) (q_var 2))) (qa_nil)))))
end


-- N = [(0, 'driven'), (1, 'symbol'), (2, 'size'), (3, 'tables'), (4, 'plain'), (5, 'best'), (6, 'result'), (7, 'word'), (8, 'parts'), (9, 'same'), (10, 'rows'), (11, 'price'), (12, 'tree'), (13, 'nearest'), (14, 'table'), (15, 'part'), (16, 'row'), (17, 'other')]

abbrev s_nearest_here : Stmt := topS 35

theorem sc_nearest_here : FnScope ["driven", "symbol", "size", "tables", "plain", "best", "result", "word", "parts", "same", "rows", "price", "tree", "nearest", "table", "part", "row", "other"] ["driven", "symbol", "size", "tables", "plain"] (defScope s_nearest_here) := ⟨rfl, rfl, rfl, by decide +kernel, rfl, by decide +kernel, by decide +kernel⟩

section
variable {P : Program} {w : World} {K : PySem.W.Frag} {mg : Str → Option Value} {base : Heap}
theorem ok_nearest_here {f : Addr} {fd : FuncData} (F : Fun K "nearest_here" "nearest_here" s_nearest_here f fd) (T : Txt K mg) : FnOk P w K mg base CX0 1 f fd ["driven", "symbol", "size", "tables", "plain"] (pureSp sp_nearest_here) := by
  refine fn_pure (t := t_nearest_here) F sc_nearest_here (fun a b c h => len_nearest_here h) (fun cdv A outer s H E hr => ?_) (fun a b c h => law_nearest_here h)
  exact qss_cons (qs_set (i := 5) sc_nearest_here.nd rfl (.inl rfl) (q_op o_mulM (q_lst (qa_cons (q_non) (qa_nil))) (q_ix i_seq (q_var 0) (q_int))))
    (qss_cons (qs_for (vs := [6, 7, 8]) PassesOwn.never rfl (qi_seq (q_ix i_seq (q_var 0) (q_int))) (qg_tup rfl (qgs_cons (qg_name (i := 6) sc_nearest_here.nd rfl (.inl rfl)) (qgs_cons (qg_name (i := 7) sc_nearest_here.nd rfl (.inl rfl)) (qgs_cons (qg_name (i := 8) sc_nearest_here.nd rfl (.inl rfl)) (qgs_nil))))) (qss_cons (qs_set (i := 9) sc_nearest_here.nd rfl (.inl rfl) (q_cmp (o_eq hr.units) (q_tup (qa_cons (q_var 7) (qa_cons (q_callB c_len (by rfl) T.len_ bi_len (qa_cons (q_var 8) (qa_nil))) (qa_nil)))) (q_var 1) (nomark _)))
    (qss_cons (qs_if (qt_val (q_var 9)) (qss_one (qs_setLc (i := 10) (own := [("table", 14), ("part", 15)]) finL_ok rfl sc_nearest_here.nd rfl rfl (sw_true rfl rfl rfl (by decide +kernel)) (qi_zip (by rfl) T.zip_ (q_var 3) (q_var 8)) (blkOk_by (show blkC ["driven", "symbol", "size", "tables", "plain", "best", "result", "word", "parts", "same", "rows", "price", "tree", "nearest", "table", "part", "row", "other"] (defScope s_nearest_here) _ [("table", 14), ("part", 15)] = true from by decide +kernel)) (fun _ _ _ _ _ => qg_tup rfl (qgs_cons (qg_name (i := 14) sc_nearest_here.nd rfl (.inl rfl)) (qgs_cons (qg_name (i := 15) sc_nearest_here.nd rfl (.inl rfl)) (qgs_nil)))) (fun _ _ _ _ _ => qts_nil) (fun _ _ _ _ _ => q_ix i_seq (q_var 14) (q_var 15)))) (qss_one (qs_setLc (i := 10) (own := [("part", 15)]) finL_ok rfl sc_nearest_here.nd rfl rfl (sw_true rfl rfl rfl (by decide +kernel)) (qi_seq (q_var 8)) (blkOk_by (show blkC ["driven", "symbol", "size", "tables", "plain", "best", "result", "word", "parts", "same", "rows", "price", "tree", "nearest", "table", "part", "row", "other"] (defScope s_nearest_here) _ [("part", 15)] = true from by decide +kernel)) (fun _ _ _ _ _ => qg_name (i := 15) sc_nearest_here.nd rfl (.inl rfl)) (fun _ _ _ _ _ => qts_nil) (fun _ _ _ _ _ => q_ix i_seq (q_var 4) (q_var 15)))))
    (qss_cons (qs_if (qt_cmp (o_inLst (hu65 hr)) (q_non) (q_var 10) (by rfl)) (qss_one (qs_continue)) (qss_nil))
    (qss_cons (qs_set (i := 11) sc_nearest_here.nd rfl (.inl rfl) (q_callB (c_sum rfl) (by rfl) T.sum_ bi_sum (qa_cons (q_lc (own := [("row", 16)]) finL_ok rfl sc_nearest_here.nd (qi_seq (q_var 10)) (blkOk_by (show blkC ["driven", "symbol", "size", "tables", "plain", "best", "result", "word", "parts", "same", "rows", "price", "tree", "nearest", "table", "part", "row", "other"] (defScope s_nearest_here) _ [("row", 16)] = true from by decide +kernel)) (fun _ _ _ _ _ => qg_name (i := 16) sc_nearest_here.nd rfl (.inl rfl)) (fun _ _ _ _ _ => qts_nil) (fun _ _ _ _ _ => q_ix i_seq (q_var 16) (q_int))) (qa_nil))))
    (qss_cons (qs_if (qt_not (qt_val (q_var 9))) (qss_one (qs_aug (i := 11) sc_nearest_here.nd rfl (.inl rfl) (q_op o_add (q_var 2) (q_int)) p_addI)) (qss_nil))
    (qss_cons (qs_set (i := 12) sc_nearest_here.nd rfl (.inl rfl) (q_op o_add (q_tup (qa_cons (q_tup (qa_cons (q_var 7) (qa_cons (q_callB c_len (by rfl) T.len_ bi_len (qa_cons (q_var 8) (qa_nil))) (qa_nil)))) (qa_nil))) (q_callTy c_tuple (by rfl) T.tuple_ bi_tuple (qa_cons (q_lc2 (own := [("row", 16), ("other", 17)]) (vs1 := [17]) finL_ok rfl sc_nearest_here.nd (qi_seq (q_var 10)) (blkOk_by (show blkC ["driven", "symbol", "size", "tables", "plain", "best", "result", "word", "parts", "same", "rows", "price", "tree", "nearest", "table", "part", "row", "other"] (defScope s_nearest_here) _ [("row", 16), ("other", 17)] = true from by decide +kernel)) (by decide) (fun _ _ _ _ _ => qg_name (i := 16) sc_nearest_here.nd rfl (.inl rfl)) (fun _ _ _ _ _ => qi_seq (q_ix i_seq (q_var 16) (q_int))) (fun _ _ _ _ _ => qg_name (i := 17) sc_nearest_here.nd rfl (.inl rfl)) (fun _ _ _ _ _ => q_var 17)) (qa_nil)))))
    (qss_cons (qs_set (i := 13) sc_nearest_here.nd rfl (.inl rfl) (q_tup (qa_cons (q_var 11) (qa_cons (q_callB c_len (by rfl) T.len_ bi_len (qa_cons (q_var 12) (qa_nil))) (qa_cons (q_var 12) (qa_nil))))))
    (qss_one (qs_if (PW.pt (qw_or (qt_cmp o_is (q_ix i_seq (q_var 5) (q_var 6)) (q_non) (nomark _)) (qw_or1 (qt_cmp (o_lt hr.units) (q_var 13) (q_ix i_seq (q_var 5) (q_var 6)) (nomark _))))) (qss_one (qs_asg (vs := []) (q_var 13) (qg_sub (q_var 5) (q_var 6) (p_setL)))) (qss_nil)))))))))))
    (qss_one (qs_ret (q_var 5))))
end


-- N = [(0, 'driven'), (1, 'tree'), (2, 'least'), (3, 'plain'), (4, 'beneath'), (5, 'sizes'), (6, 'found'), (7, 'node'), (8, 'tables'), (9, 'other'), (10, 'symbol'), (11, 'part')]

abbrev s_nearest_by_node : Stmt := topS 36

theorem sc_nearest_by_node : FnScope ["driven", "tree", "least", "plain", "beneath", "sizes", "found", "node", "tables", "other", "symbol", "part"] ["driven", "tree", "least"] (defScope s_nearest_by_node) := ⟨rfl, rfl, rfl, by decide +kernel, rfl, by decide +kernel, by decide +kernel⟩

section
variable {P : Program} {w : World} {K : PySem.W.Frag} {mg : Str → Option Value} {base : Heap}
theorem ok_nearest_by_node {f : Addr} {fd : FuncData} (F : Fun K "nearest_by_node" "nearest_by_node" s_nearest_by_node f fd) (T : Txt K mg) {f_nodes_beneath : Addr} {fd_nodes_beneath : FuncData} (C_nodes_beneath : Cal P w K mg base CX0 1 "nodes_beneath" ["tree"] (pureSp sp_nodes_beneath) f_nodes_beneath fd_nodes_beneath) {f_piece_sizes : Addr} {fd_piece_sizes : FuncData} (C_piece_sizes : Cal P w K mg base CX0 1 "piece_sizes" ["beneath"] (pureSp sp_piece_sizes) f_piece_sizes fd_piece_sizes) {f_nearest_here : Addr} {fd_nearest_here : FuncData} (C_nearest_here : Cal P w K mg base CX0 1 "nearest_here" ["driven", "symbol", "size", "tables", "plain"] (pureSp sp_nearest_here) f_nearest_here fd_nearest_here) : FnOk P w K mg base CX0 2 f fd ["driven", "tree", "least"] (pureSp sp_nearest_by_node) := by
  refine fn_pure (t := t_nearest_by_node) F sc_nearest_by_node (fun a b c h => len_nearest_by_node h) (fun cdv A outer s H E hr => ?_) (fun a b c h => law_nearest_by_node h)
  exact qss_cons (qs_setLc (i := 3) (own := [("other", 9)]) finL_ok rfl sc_nearest_by_node.nd rfl rfl (sw_true rfl rfl rfl (by decide +kernel)) (qi_seq (q_var 2)) (blkOk_by (show blkC ["driven", "tree", "least", "plain", "beneath", "sizes", "found", "node", "tables", "other", "symbol", "part"] (defScope s_nearest_by_node) _ [("other", 9)] = true from by decide +kernel)) (fun _ _ _ _ _ => qg_name (i := 9) sc_nearest_by_node.nd rfl (.inl rfl)) (fun _ _ _ _ _ => qts_nil) (fun _ _ _ _ _ => q_ifExp (qt_cmp o_is (q_var 9) (q_non) (nomark _)) (q_non) (q_tup (qa_cons (q_callB c_len (by rfl) T.len_ bi_len (qa_cons (q_var 9) (qa_nil))) (qa_cons (q_callB c_len (by rfl) T.len_ bi_len (qa_cons (q_var 9) (qa_nil))) (qa_cons (q_var 9) (qa_nil)))))))
    (qss_cons (qs_set (i := 4) sc_nearest_by_node.nd rfl (.inl rfl) (q_callP C_nodes_beneath.ok hr (by rfl) C_nodes_beneath.mg C_nodes_beneath.kp C_nodes_beneath.b pass0 (qa_cons (q_var 1) (qa_nil))))
    (qss_cons (qs_set (i := 5) sc_nearest_by_node.nd rfl (.inl rfl) (q_callP C_piece_sizes.ok hr (by rfl) C_piece_sizes.mg C_piece_sizes.kp C_piece_sizes.b pass0 (qa_cons (q_var 4) (qa_nil))))
    (qss_cons (qs_set (i := 6) sc_nearest_by_node.nd rfl (.inr rfl) (q_lc (own := [("symbol", 10)]) finM_ok rfl sc_nearest_by_node.nd (qi_seq (q_var 1)) (blkOk_by (show blkC ["driven", "tree", "least", "plain", "beneath", "sizes", "found", "node", "tables", "other", "symbol", "part"] (defScope s_nearest_by_node) _ [("symbol", 10)] = true from by decide +kernel)) (fun _ _ _ _ _ => qg_name (i := 10) sc_nearest_by_node.nd rfl (.inl rfl)) (fun _ _ _ _ _ => qts_nil) (fun _ _ _ _ _ => q_lst (qa_nil))))
    (qss_cons (qs_for (vs := [7]) PassesOwn.never rfl (qi_revRange (by rfl) T.reversed_ (by rfl) T.range_ (q_callB c_len (by rfl) T.len_ bi_len (qa_cons (q_var 1) (qa_nil)))) (qg_name (i := 7) sc_nearest_by_node.nd rfl (.inl rfl)) (qss_cons (qs_setLc (i := 8) (own := [("part", 11)]) finL_ok rfl sc_nearest_by_node.nd rfl rfl (sw_true rfl rfl rfl (by decide +kernel)) (qi_seq (q_ix i_seq (q_var 4) (q_var 7))) (blkOk_by (show blkC ["driven", "tree", "least", "plain", "beneath", "sizes", "found", "node", "tables", "other", "symbol", "part"] (defScope s_nearest_by_node) _ [("part", 11)] = true from by decide +kernel)) (fun _ _ _ _ _ => qg_name (i := 11) sc_nearest_by_node.nd rfl (.inl rfl)) (fun _ _ _ _ _ => qts_nil) (fun _ _ _ _ _ => q_ix i_seq (q_var 6) (q_var 11)))
    (qss_one (qs_asg (vs := []) (q_callP C_nearest_here.ok hr (by rfl) C_nearest_here.mg C_nearest_here.kp C_nearest_here.b pass0 (qa_cons (q_var 0) (qa_cons (q_ix i_seq (q_var 1) (q_var 7)) (qa_cons (q_ix i_seq (q_var 5) (q_var 7)) (qa_cons (q_var 8) (qa_cons (q_var 3) (qa_nil))))))) (qg_sub (q_var 6) (q_var 7) (p_setL))))))
    (qss_one (qs_ret (q_var 6)))))))
end


-- N = [(0, 'driven'), (1, 'tree'), (2, 'least'), (3, 'z'), (4, 'nearest'), (5, 'h'), (6, 'other'), (7, 'rows'), (8, 'row')]

abbrev s_floors_of : Stmt := topS 38

theorem sc_floors_of : FnScope ["driven", "tree", "least", "z", "nearest", "h", "other", "rows", "row"] ["driven", "tree"] (defScope s_floors_of) := ⟨rfl, rfl, rfl, by decide +kernel, rfl, by decide +kernel, by decide +kernel⟩

section
variable {P : Program} {w : World} {K : PySem.W.Frag} {mg : Str → Option Value} {base : Heap}
theorem ok_floors_of {f : Addr} {fd : FuncData} (F : Fun K "floors_of" "floors_of" s_floors_of f fd) (T : Txt K mg) {f_is_tree : Addr} {fd_is_tree : FuncData} (C_is_tree : Cal P w K mg base CX0 5 "is_tree" ["thing"] (pureSp sp_is_tree) f_is_tree fd_is_tree) {f_least_trees : Addr} {fd_least_trees : FuncData} (C_least_trees : Cal P w K mg base CX0 3 "least_trees" ["grammar"] (pureSp sp_least_trees) f_least_trees fd_least_trees) {f_nearest_by_node : Addr} {fd_nearest_by_node : FuncData} (C_nearest_by_node : Cal P w K mg base CX0 2 "nearest_by_node" ["driven", "tree", "least"] (pureSp sp_nearest_by_node) f_nearest_by_node fd_nearest_by_node) {fI_NotUsable : Addr} {fd_NotUsable : FuncData} (T_NotUsable : Rai P w K mg base "NotUsable" C_NotUsable fI_NotUsable fd_NotUsable) : FnOk P w K mg base (L2N.CX P w) 6 f fd ["driven", "tree"] (pureSp (sp_floors_of C_NotUsable)) := by
  refine fn_pureX (t := t_floors_of C_NotUsable) F sc_floors_of (fun a b c h => len_floors_of h) (fun cdv A outer s H E hr => ?_) (fun a b c h => law_floors_of h)
  exact qss_cons (qs_if (qt_not (qt_val (q_callP C_is_tree.ok hr (by rfl) C_is_tree.mg C_is_tree.kp C_is_tree.b pass0 (qa_cons (q_var 1) (qa_nil))))) (qss_one (qs_raise rfl T_NotUsable (hr.mono (by decide)) (by rfl) (qa_cons (q_str) (qa_cons (q_neg (q_int)) (qa_nil))))) (qss_nil))
    (qss_cons (qs_set (i := 2) sc_floors_of.nd rfl (.inl rfl) (q_callP C_least_trees.ok (hr.mono (by decide)) (by rfl) C_least_trees.mg C_least_trees.kp C_least_trees.b pass0 (qa_cons (q_var 0) (qa_nil))))
    (qss_cons (qs_set (i := 3) sc_floors_of.nd rfl (.inl rfl) (q_callTy c_tuple (by rfl) T.tuple_ bi_tuple (qa_cons (q_lc (own := [("other", 6)]) finL_ok rfl sc_floors_of.nd (qi_seq (q_var 2)) (blkOk_by (show blkC ["driven", "tree", "least", "z", "nearest", "h", "other", "rows", "row"] (defScope s_floors_of) _ [("other", 6)] = true from by decide +kernel)) (fun _ _ _ _ _ => qg_name (i := 6) sc_floors_of.nd rfl (.inl rfl)) (fun _ _ _ _ _ => qts_nil) (fun _ _ _ _ _ => q_tup (qa_cons (q_callB c_len (by rfl) T.len_ bi_len (qa_cons (q_var 6) (qa_nil))) (qa_cons (q_callB c_len (by rfl) T.len_ bi_len (qa_cons (q_var 6) (qa_nil))) (qa_nil))))) (qa_nil))))
    (qss_cons (qs_set (i := 4) sc_floors_of.nd rfl (.inl rfl) (q_callP C_nearest_by_node.ok (hr.mono (by decide)) (by rfl) C_nearest_by_node.mg C_nearest_by_node.kp C_nearest_by_node.b pass0 (qa_cons (q_var 0) (qa_cons (q_var 1) (qa_cons (q_var 2) (qa_nil))))))
    (qss_cons (qs_set (i := 5) sc_floors_of.nd rfl (.inl rfl) (q_callTy c_tuple (by rfl) T.tuple_ bi_tuple (qa_cons (q_lc (own := [("rows", 7)]) finL_ok rfl sc_floors_of.nd (qi_seq (q_var 4)) (blkOk_by (show blkC ["driven", "tree", "least", "z", "nearest", "h", "other", "rows", "row"] (defScope s_floors_of) _ [("rows", 7)] = true from by decide +kernel)) (fun _ _ _ _ _ => qg_name (i := 7) sc_floors_of.nd rfl (.inl rfl)) (fun _ _ _ _ _ => qts_nil) (fun _ _ _ _ _ => q_callTy c_tuple (by rfl) T.tuple_ bi_tuple (qa_cons (q_lc (own := [("row", 8)]) finL_ok rfl sc_floors_of.nd (qi_seq (q_var 7)) (blkOk_by (by rfl)) (fun _ _ _ _ _ => qg_name (i := 8) sc_floors_of.nd rfl (.inl rfl)) (fun _ _ _ _ _ => qts_nil) (fun _ _ _ _ _ => q_tup (qa_cons (q_ix i_seq (q_var 8) (q_int)) (qa_cons (q_ix i_seq (q_var 8) (q_int)) (qa_nil))))) (qa_nil)))) (qa_nil))))
    (qss_one (qs_ret (q_tup (qa_cons (q_var 3) (qa_cons (q_var 5) (qa_nil))))))))))
end


-- N = [(0, '_law_tape'), (1, '_law_many'), (2, '_law_at'), (3, '_law_cell')]

abbrev s_law_pick : Stmt := topS 40

theorem sc_law_pick : FnScope ["_law_tape", "_law_many", "_law_at", "_law_cell"] ["_law_tape", "_law_many"] (defScope s_law_pick) := ⟨rfl, rfl, rfl, by decide +kernel, rfl, by decide +kernel, by decide +kernel⟩

section
variable {P : Program} {w : World} {K : PySem.W.Frag} {mg : Str → Option Value} {base : Heap}
theorem ok_law_pick {f : Addr} {fd : FuncData} (F : Fun K "_law_pick" "_law_pick" s_law_pick f fd) (T : Txt K mg) : FnOk P w K mg base CX0 1 f fd ["_law_tape", "_law_many"] (memSp sp_law_pick) := by
  refine fn_mem (t := t_law_pick) F sc_law_pick (fun a b c h => len_law_pick h) (fun cdv A outer s H E hr => ?_) (fun a b c h => law_law_pick h)
  exact qss_cons (qs_set (i := 2) sc_law_pick.nd rfl (.inl rfl) (q_op o_mod (q_callTy c_int (by rfl) T.int_ bi_int (qa_cons (q_op o_add (q_op o_mul (q_int) (q_ix i_seq (q_var 0) (q_int))) (q_op o_fdiv (q_ix i_seq (q_var 0) (q_int)) (q_int))) (qa_nil))) (q_callB c_len (by rfl) T.len_ bi_len (qa_cons (q_ix i_seq (q_var 0) (q_int)) (qa_nil)))))
    (qss_cons (qs_set (i := 3) sc_law_pick.nd rfl (.inl rfl) (q_ix i_seq (q_ix i_seq (q_var 0) (q_int)) (q_var 2)))
    (qss_cons (qs_asg (vs := []) (q_op o_fdiv (q_var 3) (q_var 1)) (qg_sub (q_ix i_seq (q_var 0) (q_int)) (q_var 2) (p_setL)))
    (qss_cons (qs_asg (vs := []) (q_op o_add (q_ix i_seq (q_var 0) (q_int)) (q_int)) (qg_sub (q_var 0) (q_int) (p_setL)))
    (qss_one (qs_ret (q_op o_mod (q_callTy c_int (by rfl) T.int_ bi_int (qa_cons (q_op o_add (q_op o_add (q_op o_add (q_var 3) (q_op o_mul (q_int) (q_ix i_seq (q_var 0) (q_int)))) (q_op o_fdiv (q_op o_mul (q_ix i_seq (q_var 0) (q_int)) (q_ix i_seq (q_var 0) (q_int))) (q_int))) (q_op o_mul (q_ix i_seq (q_var 0) (q_int)) (q_op o_add (q_op o_mod (q_ix i_seq (q_var 0) (q_int)) (q_int)) (q_op o_fdiv (q_ix i_seq (q_var 0) (q_int)) (q_int))))) (qa_nil))) (q_var 1)))))))
end


-- N = []

abbrev s_law_symbols : Stmt := topS 41

theorem sc_law_symbols : FnScope [] [] (defScope s_law_symbols) := ⟨rfl, rfl, rfl, by decide +kernel, rfl, by decide +kernel, by decide +kernel⟩

section
variable {P : Program} {w : World} {K : PySem.W.Frag} {mg : Str → Option Value} {base : Heap}
theorem ok_law_symbols {f : Addr} {fd : FuncData} (F : Fun K "_law_symbols" "_law_symbols" s_law_symbols f fd) (T : Txt K mg) : FnOk P w K mg base CX0 1 f fd [] (pureSp sp_law_symbols) := by
  refine fn_pure (t := t_law_symbols) F sc_law_symbols (fun a b c h => len_law_symbols h) (fun cdv A outer s H E hr => ?_) (fun a b c h => law_law_symbols h)
  exact qss_one (qs_ret (q_lst (qa_cons (q_tup (qa_cons (q_str) (qa_cons (q_int) (qa_nil)))) (qa_cons (q_tup (qa_cons (q_str) (qa_cons (q_int) (qa_nil)))) (qa_cons (q_tup (qa_cons (q_str) (qa_cons (q_int) (qa_nil)))) (qa_cons (q_tup (qa_cons (q_str) (qa_cons (q_int) (qa_nil)))) (qa_cons (q_tup (qa_cons (q_str) (qa_cons (q_int) (qa_nil)))) (qa_cons (q_tup (qa_cons (q_str) (qa_cons (q_int) (qa_nil)))) (qa_cons (q_tup (qa_cons (q_str) (qa_cons (q_int) (qa_nil)))) (qa_cons (q_tup (qa_cons (q_str) (qa_cons (q_int) (qa_nil)))) (qa_cons (q_tup (qa_cons (q_str) (qa_cons (q_int) (qa_nil)))) (qa_cons (q_tup (qa_cons (q_str) (qa_cons (q_int) (qa_nil)))) (qa_cons (q_tup (qa_cons (q_str) (qa_cons (q_int) (qa_nil)))) (qa_cons (q_tup (qa_cons (q_str) (qa_cons (q_int) (qa_nil)))) (qa_nil)))))))))))))))
end


-- N = [(0, '_law_tape'), (1, '_law_names'), (2, '_law_table'), (3, '_law_k'), (4, '_law_word'), (5, '_law_many'), (6, '_law_parts'), (7, '_law_starts'), (8, '_law_name'), (9, '_law_part'), (10, '_law_key')]

abbrev s_law_free : Stmt := topS 42

theorem sc_law_free : FnScope ["_law_tape", "_law_names", "_law_table", "_law_k", "_law_word", "_law_many", "_law_parts", "_law_starts", "_law_name", "_law_part", "_law_key"] ["_law_tape"] (defScope s_law_free) := ⟨rfl, rfl, rfl, by decide +kernel, rfl, by decide +kernel, by decide +kernel⟩

section
variable {P : Program} {w : World} {K : PySem.W.Frag} {mg : Str → Option Value} {base : Heap}
theorem ok_law_free {f : Addr} {fd : FuncData} (F : Fun K "_law_free" "_law_free" s_law_free f fd) (T : Txt K mg) {f_law_pick : Addr} {fd_law_pick : FuncData} (C_law_pick : Cal P w K mg base CX0 1 "_law_pick" ["_law_tape", "_law_many"] (memSp sp_law_pick) f_law_pick fd_law_pick) {f_law_symbols : Addr} {fd_law_symbols : FuncData} (C_law_symbols : Cal P w K mg base CX0 1 "_law_symbols" [] (pureSp sp_law_symbols) f_law_symbols fd_law_symbols) : FnOk P w K mg base CX0 2 f fd ["_law_tape"] (memSp sp_law_free) := by
  refine fn_mem (t := t_law_free w) F sc_law_free (fun a b c h => len_law_free h) (fun cdv A outer s H E hr => ?_) (fun a b c h => law_law_free h)
  exact qss_cons (qs_set (i := 1) sc_law_free.nd rfl (.inr rfl) (q_ix i_seq (q_lst (qa_cons (q_int) (qa_cons (q_int) (qa_cons (q_int) (qa_cons (q_int) (qa_cons (q_int) (qa_nil))))))) (q_callM C_law_pick.ok hr (by rfl) C_law_pick.mg C_law_pick.kp C_law_pick.b pass0 (qa_cons (q_var 0) (qa_cons (q_int) (qa_nil))))))
    (qss_cons (qs_set (i := 2) sc_law_free.nd rfl (.inr rfl) (q_newTab))
    (qss_cons (qs_for (vs := [3]) PassesOwn.never rfl (qi_range (by rfl) T.range_ (q_op o_add (q_int) (q_callM C_law_pick.ok hr (by rfl) C_law_pick.mg C_law_pick.kp C_law_pick.b pass0 (qa_cons (q_var 0) (qa_cons (q_int) (qa_nil)))))) (qg_name (i := 3) sc_law_free.nd rfl (.inl rfl)) (qss_one (qs_asg (vs := []) (q_callM C_law_pick.ok hr (by rfl) C_law_pick.mg C_law_pick.kp C_law_pick.b pass0 (qa_cons (q_var 0) (qa_cons (q_var 1) (qa_nil)))) (qg_sub (q_var 2) (q_tup (qa_cons (q_ix i_seq (q_ix i_seq (q_call0P C_law_symbols.ok hr (by rfl) C_law_symbols.mg C_law_symbols.kp C_law_symbols.b pass0) (q_callM C_law_pick.ok hr (by rfl) C_law_pick.mg C_law_pick.kp C_law_pick.b pass0 (qa_cons (q_var 0) (qa_cons (q_int) (qa_nil))))) (q_int)) (qa_cons (q_tup (qa_nil)) (qa_nil)))) (p_setTab (hu65 hr))))))
    (qss_cons (qs_for (vs := [3]) PassesOwn.never rfl (qi_range (by rfl) T.range_ (q_op o_add (q_int) (q_callM C_law_pick.ok hr (by rfl) C_law_pick.mg C_law_pick.kp C_law_pick.b pass0 (qa_cons (q_var 0) (qa_cons (q_int) (qa_nil)))))) (qg_name (i := 3) sc_law_free.nd rfl (.inl rfl)) (qss_cons (qs_asg (vs := [4, 5]) (q_ix i_seq (q_call0P C_law_symbols.ok hr (by rfl) C_law_symbols.mg C_law_symbols.kp C_law_symbols.b pass0) (q_op o_add (q_int) (q_ix i_seq (q_lst (qa_cons (q_int) (qa_cons (q_int) (qa_cons (q_int) (qa_cons (q_int) (qa_cons (q_int) (qa_cons (q_int) (qa_cons (q_int) (qa_cons (q_int) (qa_nil)))))))))) (q_callM C_law_pick.ok hr (by rfl) C_law_pick.mg C_law_pick.kp C_law_pick.b pass0 (qa_cons (q_var 0) (qa_cons (q_int) (qa_nil))))))) (qg_tup rfl (qgs_cons (qg_name (i := 4) sc_law_free.nd rfl (.inl rfl)) (qgs_cons (qg_name (i := 5) sc_law_free.nd rfl (.inl rfl)) (qgs_nil)))))
    (qss_cons (qs_set (i := 6) sc_law_free.nd rfl (.inl rfl) (q_callTy c_tuple (by rfl) T.tuple_ bi_tuple (qa_cons (q_lc (own := [("_law_part", 9)]) finL_ok rfl sc_law_free.nd (qi_range (by rfl) T.range_ (q_var 5)) (blkOk_by (show blkC ["_law_tape", "_law_names", "_law_table", "_law_k", "_law_word", "_law_many", "_law_parts", "_law_starts", "_law_name", "_law_part", "_law_key"] (defScope s_law_free) _ [("_law_part", 9)] = true from by decide +kernel)) (fun _ _ _ _ _ => qg_name (i := 9) sc_law_free.nd rfl (.inl rfl)) (fun _ _ _ _ _ => qts_nil) (fun _ _ _ _ _ => q_callM C_law_pick.ok hr (by rfl) C_law_pick.mg C_law_pick.kp C_law_pick.b pass0 (qa_cons (q_var 0) (qa_cons (q_var 1) (qa_nil))))) (qa_nil))))
    (qss_one (qs_asg (vs := []) (q_callM C_law_pick.ok hr (by rfl) C_law_pick.mg C_law_pick.kp C_law_pick.b pass0 (qa_cons (q_var 0) (qa_cons (q_var 1) (qa_nil)))) (qg_sub (q_var 2) (q_tup (qa_cons (q_var 4) (qa_cons (q_var 6) (qa_nil)))) (p_setTab (hu65 hr))))))))
    (qss_cons (qs_set (i := 7) sc_law_free.nd rfl (.inl rfl) (q_callTy c_tuple (by rfl) T.tuple_ bi_tuple (qa_cons (q_lc (own := [("_law_name", 8)]) finL_ok rfl sc_law_free.nd (qi_range (by rfl) T.range_ (q_var 1)) (blkOk_by (show blkC ["_law_tape", "_law_names", "_law_table", "_law_k", "_law_word", "_law_many", "_law_parts", "_law_starts", "_law_name", "_law_part", "_law_key"] (defScope s_law_free) _ [("_law_name", 8)] = true from by decide +kernel)) (fun _ _ _ _ _ => qg_name (i := 8) sc_law_free.nd rfl (.inl rfl)) (fun _ _ _ _ _ => qts_one (qt_cmp (o_lt hr.units) (q_callM C_law_pick.ok hr (by rfl) C_law_pick.mg C_law_pick.kp C_law_pick.b pass0 (qa_cons (q_var 0) (qa_cons (q_int) (qa_nil)))) (q_int) (nomark _))) (fun _ _ _ _ _ => q_var 8)) (qa_nil))))
    (qss_one (qs_ret (q_tup (qa_cons (q_var 1) (qa_cons (q_var 7) (qa_cons (q_callTy c_tuple (by rfl) T.tuple_ bi_tuple (qa_cons (q_callB (c_sorted rfl hr.units) (by rfl) T.sorted_ bi_sorted (qa_cons (q_lc (own := [("_law_key", 10)]) finL_ok rfl sc_law_free.nd (qi_seq (q_callTy (c_listTab rfl) (by rfl) T.list_ bi_list (qa_cons (q_var 2) (qa_nil)))) (blkOk_by (show blkC ["_law_tape", "_law_names", "_law_table", "_law_k", "_law_word", "_law_many", "_law_parts", "_law_starts", "_law_name", "_law_part", "_law_key"] (defScope s_law_free) _ [("_law_key", 10)] = true from by decide +kernel)) (fun _ _ _ _ _ => qg_name (i := 10) sc_law_free.nd rfl (.inl rfl)) (fun _ _ _ _ _ => qts_nil) (fun _ _ _ _ _ => q_tup (qa_cons (q_getTab (hu65 hr) (q_var 2) (q_var 10)) (qa_cons (q_ix i_seq (q_var 10) (q_int)) (qa_cons (q_ix i_seq (q_var 10) (q_int)) (qa_nil)))))) (qa_nil))) (qa_nil))) (qa_nil)))))))))))
end


-- N = [(0, '_law_grammar'), (1, '_law_made'), (2, '_law_turn'), (3, '_law_result'), (4, '_law_word'), (5, '_law_parts'), (6, '_law_part'), (7, '_law_good'), (8, '_law_stands'), (9, '_law_kept'), (10, '_law_number'), (11, '_law_k'), (12, '_law_rules'), (13, '_law_name'), (14, '_law_rule'), (15, '_law_start')]

abbrev s_law_trim : Stmt := topS 43

theorem sc_law_trim : FnScope ["_law_grammar", "_law_made", "_law_turn", "_law_result", "_law_word", "_law_parts", "_law_part", "_law_good", "_law_stands", "_law_kept", "_law_number", "_law_k", "_law_rules", "_law_name", "_law_rule", "_law_start"] ["_law_grammar"] (defScope s_law_trim) := ⟨rfl, rfl, rfl, by decide +kernel, rfl, by decide +kernel, by decide +kernel⟩

section
variable {P : Program} {w : World} {K : PySem.W.Frag} {mg : Str → Option Value} {base : Heap}
theorem ok_law_trim {f : Addr} {fd : FuncData} (F : Fun K "_law_trim" "_law_trim" s_law_trim f fd) (T : Txt K mg) : FnOk P w K mg base CX0 1 f fd ["_law_grammar"] (pureSp sp_law_trim) := by
  refine fn_pure (t := t_law_trim) F sc_law_trim (fun a b c h => len_law_trim h) (fun cdv A outer s H E hr => ?_) (fun a b c h => law_law_trim h)
  exact qss_cons (qs_set (i := 1) sc_law_trim.nd rfl (.inr rfl) (q_lc (own := [("_law_name", 13)]) finM_ok rfl sc_law_trim.nd (qi_range (by rfl) T.range_ (q_ix i_seq (q_var 0) (q_int))) (blkOk_by (show blkC ["_law_grammar", "_law_made", "_law_turn", "_law_result", "_law_word", "_law_parts", "_law_part", "_law_good", "_law_stands", "_law_kept", "_law_number", "_law_k", "_law_rules", "_law_name", "_law_rule", "_law_start"] (defScope s_law_trim) _ [("_law_name", 13)] = true from by decide +kernel)) (fun _ _ _ _ _ => qg_name (i := 13) sc_law_trim.nd rfl (.inl rfl)) (fun _ _ _ _ _ => qts_nil) (fun _ _ _ _ _ => q_bl)))
    (qss_cons (qs_for (vs := [2]) PassesOwn.never rfl (qi_range (by rfl) T.range_ (q_ix i_seq (q_var 0) (q_int))) (qg_name (i := 2) sc_law_trim.nd rfl (.inl rfl)) (qss_one (qs_for (vs := [3, 4, 5]) PassesOwn.never rfl (qi_seq (q_ix i_seq (q_var 0) (q_int))) (qg_tup rfl (qgs_cons (qg_name (i := 3) sc_law_trim.nd rfl (.inl rfl)) (qgs_cons (qg_name (i := 4) sc_law_trim.nd rfl (.inl rfl)) (qgs_cons (qg_name (i := 5) sc_law_trim.nd rfl (.inl rfl)) (qgs_nil))))) (qss_one (qs_if (qt_val (q_callB (c_all rfl) (by rfl) T.all_ bi_all (qa_cons (q_lc (own := [("_law_part", 6)]) finL_ok rfl sc_law_trim.nd (qi_seq (q_var 5)) (blkOk_by (show blkC ["_law_grammar", "_law_made", "_law_turn", "_law_result", "_law_word", "_law_parts", "_law_part", "_law_good", "_law_stands", "_law_kept", "_law_number", "_law_k", "_law_rules", "_law_name", "_law_rule", "_law_start"] (defScope s_law_trim) _ [("_law_part", 6)] = true from by decide +kernel)) (fun _ _ _ _ _ => qg_name (i := 6) sc_law_trim.nd rfl (.inl rfl)) (fun _ _ _ _ _ => qts_nil) (fun _ _ _ _ _ => q_ix i_seq (q_var 1) (q_var 6))) (qa_nil)))) (qss_one (qs_asg (vs := []) (q_bl) (qg_sub (q_var 1) (q_var 3) (p_setL)))) (qss_nil))))))
    (qss_cons (qs_setLc (i := 7) (own := [("_law_rule", 14)]) finL_ok rfl sc_law_trim.nd rfl rfl (sw_true rfl rfl rfl (by decide +kernel)) (qi_seq (q_ix i_seq (q_var 0) (q_int))) (blkOk_by (show blkC ["_law_grammar", "_law_made", "_law_turn", "_law_result", "_law_word", "_law_parts", "_law_part", "_law_good", "_law_stands", "_law_kept", "_law_number", "_law_k", "_law_rules", "_law_name", "_law_rule", "_law_start"] (defScope s_law_trim) _ [("_law_rule", 14)] = true from by decide +kernel)) (fun _ _ _ _ _ => qg_name (i := 14) sc_law_trim.nd rfl (.inl rfl)) (fun _ _ _ _ _ => qts_one (qt_val (q_callB (c_all rfl) (by rfl) T.all_ bi_all (qa_cons (q_lc (own := [("_law_part", 6)]) finL_ok rfl sc_law_trim.nd (qi_seq (q_ix i_seq (q_var 14) (q_int))) (blkOk_by (by rfl)) (fun _ _ _ _ _ => qg_name (i := 6) sc_law_trim.nd rfl (.inl rfl)) (fun _ _ _ _ _ => qts_nil) (fun _ _ _ _ _ => q_ix i_seq (q_var 1) (q_var 6))) (qa_nil))))) (fun _ _ _ _ _ => q_var 14))
    (qss_cons (qs_set (i := 8) sc_law_trim.nd rfl (.inr rfl) (q_lc (own := [("_law_name", 13)]) finM_ok rfl sc_law_trim.nd (qi_range (by rfl) T.range_ (q_ix i_seq (q_var 0) (q_int))) (blkOk_by (show blkC ["_law_grammar", "_law_made", "_law_turn", "_law_result", "_law_word", "_law_parts", "_law_part", "_law_good", "_law_stands", "_law_kept", "_law_number", "_law_k", "_law_rules", "_law_name", "_law_rule", "_law_start"] (defScope s_law_trim) _ [("_law_name", 13)] = true from by decide +kernel)) (fun _ _ _ _ _ => qg_name (i := 13) sc_law_trim.nd rfl (.inl rfl)) (fun _ _ _ _ _ => qts_nil) (fun _ _ _ _ _ => q_and (q_ix i_seq (q_var 1) (q_var 13)) (q_one (q_cmp o_inTup (q_var 13) (q_ix i_seq (q_var 0) (q_int)) (by rfl))))))
    (qss_cons (qs_for (vs := [2]) PassesOwn.never rfl (qi_range (by rfl) T.range_ (q_ix i_seq (q_var 0) (q_int))) (qg_name (i := 2) sc_law_trim.nd rfl (.inl rfl)) (qss_one (qs_for (vs := [3, 4, 5]) PassesOwn.never rfl (qi_seq (q_var 7)) (qg_tup rfl (qgs_cons (qg_name (i := 3) sc_law_trim.nd rfl (.inl rfl)) (qgs_cons (qg_name (i := 4) sc_law_trim.nd rfl (.inl rfl)) (qgs_cons (qg_name (i := 5) sc_law_trim.nd rfl (.inl rfl)) (qgs_nil))))) (qss_one (qs_for (vs := [6]) PassesOwn.never rfl (qi_seq (q_var 5)) (qg_name (i := 6) sc_law_trim.nd rfl (.inl rfl)) (qss_one (qs_asg (vs := []) (q_or (q_ix i_seq (q_var 8) (q_var 6)) (q_one (q_ix i_seq (q_var 8) (q_var 3)))) (qg_sub (q_var 8) (q_var 6) (p_setL)))))))))
    (qss_cons (qs_setLc (i := 9) (own := [("_law_name", 13)]) finL_ok rfl sc_law_trim.nd rfl rfl (sw_true rfl rfl rfl (by decide +kernel)) (qi_range (by rfl) T.range_ (q_ix i_seq (q_var 0) (q_int))) (blkOk_by (show blkC ["_law_grammar", "_law_made", "_law_turn", "_law_result", "_law_word", "_law_parts", "_law_part", "_law_good", "_law_stands", "_law_kept", "_law_number", "_law_k", "_law_rules", "_law_name", "_law_rule", "_law_start"] (defScope s_law_trim) _ [("_law_name", 13)] = true from by decide +kernel)) (fun _ _ _ _ _ => qg_name (i := 13) sc_law_trim.nd rfl (.inl rfl)) (fun _ _ _ _ _ => qts_one (qt_val (q_ix i_seq (q_var 8) (q_var 13)))) (fun _ _ _ _ _ => q_var 13))
    (qss_cons (qs_if (qt_cmp (o_eq hr.units) (q_callB c_len (by rfl) T.len_ bi_len (qa_cons (q_var 9) (qa_nil))) (q_int) (nomark _)) (qss_one (qs_ret (q_tup (qa_cons (q_int) (qa_cons (q_tup (qa_cons (q_int) (qa_nil))) (qa_cons (q_tup (qa_cons (q_tup (qa_cons (q_int) (qa_cons (q_str) (qa_cons (q_tup (qa_nil)) (qa_nil))))) (qa_cons (q_tup (qa_cons (q_int) (qa_cons (q_str) (qa_cons (q_tup (qa_cons (q_int) (qa_nil))) (qa_nil))))) (qa_nil)))) (qa_nil))))))) (qss_nil))
    (qss_cons (qs_set (i := 10) sc_law_trim.nd rfl (.inr rfl) (q_lc (own := [("_law_name", 13)]) finM_ok rfl sc_law_trim.nd (qi_range (by rfl) T.range_ (q_ix i_seq (q_var 0) (q_int))) (blkOk_by (show blkC ["_law_grammar", "_law_made", "_law_turn", "_law_result", "_law_word", "_law_parts", "_law_part", "_law_good", "_law_stands", "_law_kept", "_law_number", "_law_k", "_law_rules", "_law_name", "_law_rule", "_law_start"] (defScope s_law_trim) _ [("_law_name", 13)] = true from by decide +kernel)) (fun _ _ _ _ _ => qg_name (i := 13) sc_law_trim.nd rfl (.inl rfl)) (fun _ _ _ _ _ => qts_nil) (fun _ _ _ _ _ => q_neg (q_int))))
    (qss_cons (qs_for (vs := [11]) PassesOwn.never rfl (qi_range (by rfl) T.range_ (q_callB c_len (by rfl) T.len_ bi_len (qa_cons (q_var 9) (qa_nil)))) (qg_name (i := 11) sc_law_trim.nd rfl (.inl rfl)) (qss_one (qs_asg (vs := []) (q_var 11) (qg_sub (q_var 10) (q_ix i_seq (q_var 9) (q_var 11)) (p_setL)))))
    (qss_cons (qs_setLc (i := 12) (own := [("_law_rule", 14)]) finL_ok rfl sc_law_trim.nd rfl rfl (sw_true rfl rfl rfl (by decide +kernel)) (qi_seq (q_var 7)) (blkOk_by (show blkC ["_law_grammar", "_law_made", "_law_turn", "_law_result", "_law_word", "_law_parts", "_law_part", "_law_good", "_law_stands", "_law_kept", "_law_number", "_law_k", "_law_rules", "_law_name", "_law_rule", "_law_start"] (defScope s_law_trim) _ [("_law_rule", 14)] = true from by decide +kernel)) (fun _ _ _ _ _ => qg_name (i := 14) sc_law_trim.nd rfl (.inl rfl)) (fun _ _ _ _ _ => qts_one (qt_val (q_ix i_seq (q_var 8) (q_ix i_seq (q_var 14) (q_int))))) (fun _ _ _ _ _ => q_tup (qa_cons (q_ix i_seq (q_var 10) (q_ix i_seq (q_var 14) (q_int))) (qa_cons (q_ix i_seq (q_var 14) (q_int)) (qa_cons (q_callTy c_tuple (by rfl) T.tuple_ bi_tuple (qa_cons (q_lc (own := [("_law_part", 6)]) finL_ok rfl sc_law_trim.nd (qi_seq (q_ix i_seq (q_var 14) (q_int))) (blkOk_by (by rfl)) (fun _ _ _ _ _ => qg_name (i := 6) sc_law_trim.nd rfl (.inl rfl)) (fun _ _ _ _ _ => qts_nil) (fun _ _ _ _ _ => q_ix i_seq (q_var 10) (q_var 6))) (qa_nil))) (qa_nil))))))
    (qss_one (qs_ret (q_tup (qa_cons (q_callB c_len (by rfl) T.len_ bi_len (qa_cons (q_var 9) (qa_nil))) (qa_cons (q_callTy c_tuple (by rfl) T.tuple_ bi_tuple (qa_cons (q_lc (own := [("_law_start", 15)]) finL_ok rfl sc_law_trim.nd (qi_seq (q_ix i_seq (q_var 0) (q_int))) (blkOk_by (show blkC ["_law_grammar", "_law_made", "_law_turn", "_law_result", "_law_word", "_law_parts", "_law_part", "_law_good", "_law_stands", "_law_kept", "_law_number", "_law_k", "_law_rules", "_law_name", "_law_rule", "_law_start"] (defScope s_law_trim) _ [("_law_start", 15)] = true from by decide +kernel)) (fun _ _ _ _ _ => qg_name (i := 15) sc_law_trim.nd rfl (.inl rfl)) (fun _ _ _ _ _ => qts_one (qt_val (q_ix i_seq (q_var 8) (q_var 15)))) (fun _ _ _ _ _ => q_ix i_seq (q_var 10) (q_var 15))) (qa_nil))) (qa_cons (q_callTy c_tuple (by rfl) T.tuple_ bi_tuple (qa_cons (q_callB (c_sorted rfl hr.units) (by rfl) T.sorted_ bi_sorted (qa_cons (q_var 12) (qa_nil))) (qa_nil))) (qa_nil))))))))))))))))
end


-- N = [(0, '_law_tape'), (1, '_law_grammar'), (2, '_law_words'), (3, '_law_symbols_here'), (4, '_law_most'), (5, '_law_row'), (6, '_law_need'), (7, '_law_symbol'), (8, '_law_k'), (9, '_law_rule')]

abbrev s_law_tree : Stmt := topS 44

theorem sc_law_tree : FnScope ["_law_tape", "_law_grammar", "_law_words", "_law_symbols_here", "_law_most", "_law_row", "_law_need", "_law_symbol", "_law_k", "_law_rule"] ["_law_tape", "_law_grammar"] (defScope s_law_tree) := ⟨rfl, rfl, rfl, by decide +kernel, rfl, by decide +kernel, by decide +kernel⟩

section
variable {P : Program} {w : World} {K : PySem.W.Frag} {mg : Str → Option Value} {base : Heap}
theorem ok_law_tree {f : Addr} {fd : FuncData} (F : Fun K "_law_tree" "_law_tree" s_law_tree f fd) (T : Txt K mg) {f_law_pick : Addr} {fd_law_pick : FuncData} (C_law_pick : Cal P w K mg base CX0 1 "_law_pick" ["_law_tape", "_law_many"] (memSp sp_law_pick) f_law_pick fd_law_pick) {f_law_symbols : Addr} {fd_law_symbols : FuncData} (C_law_symbols : Cal P w K mg base CX0 1 "_law_symbols" [] (pureSp sp_law_symbols) f_law_symbols fd_law_symbols) : FnOk P w K mg base CX0 2 f fd ["_law_tape", "_law_grammar"] (memSp sp_law_tree) := by
  refine fn_mem (t := t_law_tree) F sc_law_tree (fun a b c h => len_law_tree h) (fun cdv A outer s H E hr => ?_) (fun a b c h => law_law_tree h)
  exact qss_cons (qs_if (qt_cmp (o_eq hr.units) (q_callM C_law_pick.ok hr (by rfl) C_law_pick.mg C_law_pick.kp C_law_pick.b pass0 (qa_cons (q_var 0) (qa_cons (q_int) (qa_nil)))) (q_int) (nomark _)) (qss_cons (qs_set (i := 2) sc_law_tree.nd rfl (.inr rfl) (q_lc (own := [("_law_k", 8)]) finL_ok rfl sc_law_tree.nd (qi_range (by rfl) T.range_ (q_int)) (blkOk_by (show blkC ["_law_tape", "_law_grammar", "_law_words", "_law_symbols_here", "_law_most", "_law_row", "_law_need", "_law_symbol", "_law_k", "_law_rule"] (defScope s_law_tree) _ [("_law_k", 8)] = true from by decide +kernel)) (fun _ _ _ _ _ => qg_name (i := 8) sc_law_tree.nd rfl (.inl rfl)) (fun _ _ _ _ _ => qts_nil) (fun _ _ _ _ _ => q_ix i_seq (q_lst (qa_cons (q_str) (qa_cons (q_str) (qa_cons (q_str) (qa_nil))))) (q_callM C_law_pick.ok hr (by rfl) C_law_pick.mg C_law_pick.kp C_law_pick.b pass0 (qa_cons (q_var 0) (qa_cons (q_int) (qa_nil)))))))
    (qss_one (qs_ret (q_op o_add (q_callTy c_tuple (by rfl) T.tuple_ bi_tuple (qa_cons (q_lc (own := [("_law_k", 8)]) finL_ok rfl sc_law_tree.nd (qi_range (by rfl) T.range_ (q_op o_add (q_int) (q_callM C_law_pick.ok hr (by rfl) C_law_pick.mg C_law_pick.kp C_law_pick.b pass0 (qa_cons (q_var 0) (qa_cons (q_int) (qa_nil)))))) (blkOk_by (show blkC ["_law_tape", "_law_grammar", "_law_words", "_law_symbols_here", "_law_most", "_law_row", "_law_need", "_law_symbol", "_law_k", "_law_rule"] (defScope s_law_tree) _ [("_law_k", 8)] = true from by decide +kernel)) (fun _ _ _ _ _ => qg_name (i := 8) sc_law_tree.nd rfl (.inl rfl)) (fun _ _ _ _ _ => qts_nil) (fun _ _ _ _ _ => q_tup (qa_cons (q_ix i_seq (q_var 2) (q_callTy c_int (by rfl) T.int_ bi_int (qa_cons (q_cmp (o_eq hr.units) (q_op o_mod (q_var 8) (q_int)) (q_int) (nomark _)) (qa_nil)))) (qa_cons (q_int) (qa_nil))))) (qa_nil))) (q_tup (qa_cons (q_tup (qa_cons (q_str) (qa_cons (q_int) (qa_nil)))) (qa_nil))))))) (qss_nil))
    (qss_cons (qs_set (i := 3) sc_law_tree.nd rfl (.inl rfl) (q_callB (c_sorted rfl hr.units) (by rfl) T.sorted_ bi_sorted (qa_cons (q_lc (own := [("_law_rule", 9)]) finL_ok rfl sc_law_tree.nd (qi_seq (q_ix i_seq (q_var 1) (q_int))) (blkOk_by (show blkC ["_law_tape", "_law_grammar", "_law_words", "_law_symbols_here", "_law_most", "_law_row", "_law_need", "_law_symbol", "_law_k", "_law_rule"] (defScope s_law_tree) _ [("_law_rule", 9)] = true from by decide +kernel)) (fun _ _ _ _ _ => qg_name (i := 9) sc_law_tree.nd rfl (.inl rfl)) (fun _ _ _ _ _ => qts_nil) (fun _ _ _ _ _ => q_tup (qa_cons (q_ix i_seq (q_var 9) (q_int)) (qa_cons (q_callB c_len (by rfl) T.len_ bi_len (qa_cons (q_ix i_seq (q_var 9) (q_int)) (qa_nil))) (qa_nil))))) (qa_nil))))
    (qss_cons (qs_if (qt_cmp (o_eq hr.units) (q_callM C_law_pick.ok hr (by rfl) C_law_pick.mg C_law_pick.kp C_law_pick.b pass0 (qa_cons (q_var 0) (qa_cons (q_int) (qa_nil)))) (q_int) (nomark _)) (qss_one (qs_set (i := 3) sc_law_tree.nd rfl (.inl rfl) (q_call0P C_law_symbols.ok hr (by rfl) C_law_symbols.mg C_law_symbols.kp C_law_symbols.b pass0))) (qss_nil))
    (qss_cons (qs_set (i := 4) sc_law_tree.nd rfl (.inl rfl) (q_op o_add (q_int) (q_callM C_law_pick.ok hr (by rfl) C_law_pick.mg C_law_pick.kp C_law_pick.b pass0 (qa_cons (q_var 0) (qa_cons (q_int) (qa_nil))))))
    (qss_cons (qs_set (i := 5) sc_law_tree.nd rfl (.inl rfl) (q_lstM (qa_nil)))
    (qss_cons (qs_set (i := 6) sc_law_tree.nd rfl (.inl rfl) (q_int))
    (qss_cons (qs_while PassesOwn.never (qt_cmp (o_gt hr.units) (q_var 6) (q_int) (nomark _)) (qss_cons (qs_set (i := 7) sc_law_tree.nd rfl (.inl rfl) (q_ix i_seq (q_var 3) (q_callM C_law_pick.ok hr (by rfl) C_law_pick.mg C_law_pick.kp C_law_pick.b pass0 (qa_cons (q_var 0) (qa_cons (q_callB c_len (by rfl) T.len_ bi_len (qa_cons (q_var 3) (qa_nil))) (qa_nil))))))
    (qss_cons (qs_if (qt_cmp (o_gt hr.units) (q_op o_add (q_op o_add (q_callB c_len (by rfl) T.len_ bi_len (qa_cons (q_var 5) (qa_nil))) (q_var 6)) (q_ix i_seq (q_var 7) (q_int))) (q_var 4) (nomark _)) (qss_one (qs_set (i := 7) sc_law_tree.nd rfl (.inl rfl) (q_ix i_seq (q_call0P C_law_symbols.ok hr (by rfl) C_law_symbols.mg C_law_symbols.kp C_law_symbols.b pass0) (q_callM C_law_pick.ok hr (by rfl) C_law_pick.mg C_law_pick.kp C_law_pick.b pass0 (qa_cons (q_var 0) (qa_cons (q_int) (qa_nil))))))) (qss_nil))
    (qss_cons (qs_expr (q_meth PySem.F.slot_list_append PySem.F.type_list_append m_append (q_var 5) (qa_cons (q_var 7) (qa_nil))))
    (qss_one (qs_set (i := 6) sc_law_tree.nd rfl (.inl rfl) (q_op o_sub (q_op o_add (q_var 6) (q_ix i_seq (q_var 7) (q_int))) (q_int))))))))
    (qss_one (qs_ret (q_callTy c_tuple (by rfl) T.tuple_ bi_tuple (qa_cons (q_var 5) (qa_nil)))))))))))
end


-- N = [(0, '_law_tree_here'), (1, '_law_ends_here'), (2, '_law_stack'), (3, '_law_k'), (4, '_law_node'), (5, '_law_end'), (6, '_law_part'), (7, '_law_symbol')]

abbrev s_law_ends : Stmt := topS 45

theorem sc_law_ends : FnScope ["_law_tree_here", "_law_ends_here", "_law_stack", "_law_k", "_law_node", "_law_end", "_law_part", "_law_symbol"] ["_law_tree_here"] (defScope s_law_ends) := ⟨rfl, rfl, rfl, by decide +kernel, rfl, by decide +kernel, by decide +kernel⟩

section
variable {P : Program} {w : World} {K : PySem.W.Frag} {mg : Str → Option Value} {base : Heap}
theorem ok_law_ends {f : Addr} {fd : FuncData} (F : Fun K "_law_ends" "_law_ends" s_law_ends f fd) (T : Txt K mg) : FnOk P w K mg base CX0 1 f fd ["_law_tree_here"] (pureSp sp_law_ends) := by
  refine fn_pure (t := t_law_ends) F sc_law_ends (fun a b c h => len_law_ends h) (fun cdv A outer s H E hr => ?_) (fun a b c h => law_law_ends h)
  exact qss_cons (qs_setLc (i := 1) (own := [("_law_symbol", 7)]) finM_ok rfl sc_law_ends.nd rfl rfl (sw_true rfl rfl rfl (by decide +kernel)) (qi_seq (q_var 0)) (blkOk_by (show blkC ["_law_tree_here", "_law_ends_here", "_law_stack", "_law_k", "_law_node", "_law_end", "_law_part", "_law_symbol"] (defScope s_law_ends) _ [("_law_symbol", 7)] = true from by decide +kernel)) (fun _ _ _ _ _ => qg_name (i := 7) sc_law_ends.nd rfl (.inl rfl)) (fun _ _ _ _ _ => qts_nil) (fun _ _ _ _ _ => q_int))
    (qss_cons (qs_set (i := 2) sc_law_ends.nd rfl (.inl rfl) (q_lstM (qa_nil)))
    (qss_cons (qs_for (vs := [3]) PassesOwn.never rfl (qi_range (by rfl) T.range_ (q_callB c_len (by rfl) T.len_ bi_len (qa_cons (q_var 0) (qa_nil)))) (qg_name (i := 3) sc_law_ends.nd rfl (.inl rfl)) (qss_cons (qs_set (i := 4) sc_law_ends.nd rfl (.inl rfl) (q_op o_sub (q_op o_sub (q_callB c_len (by rfl) T.len_ bi_len (qa_cons (q_var 0) (qa_nil))) (q_int)) (q_var 3)))
    (qss_cons (qs_set (i := 5) sc_law_ends.nd rfl (.inl rfl) (q_op o_add (q_var 4) (q_int)))
    (qss_cons (qs_for (vs := [6]) PassesOwn.never rfl (qi_range (by rfl) T.range_ (q_ix i_seq (q_ix i_seq (q_var 0) (q_var 4)) (q_int))) (qg_name (i := 6) sc_law_ends.nd rfl (.inl rfl)) (qss_one (qs_set (i := 5) sc_law_ends.nd rfl (.inl rfl) (q_meth0 PySem.F.slot_list_pop PySem.F.type_list_pop m_pop (q_var 2)))))
    (qss_cons (qs_asg (vs := []) (q_var 5) (qg_sub (q_var 1) (q_var 4) (p_setL)))
    (qss_one (qs_expr (q_meth PySem.F.slot_list_append PySem.F.type_list_append m_append (q_var 2) (qa_cons (q_var 5) (qa_nil))))))))))
    (qss_one (qs_ret (q_var 1)))))
end


-- N = [(0, '_law_pair'), (1, '_law_pairs'), (2, '_law_row')]

abbrev s_law_sum : Stmt := topS 46

theorem sc_law_sum : FnScope ["_law_pair", "_law_pairs", "_law_row"] ["_law_pair", "_law_pairs"] (defScope s_law_sum) := ⟨rfl, rfl, rfl, by decide +kernel, rfl, by decide +kernel, by decide +kernel⟩

section
variable {P : Program} {w : World} {K : PySem.W.Frag} {mg : Str → Option Value} {base : Heap}
theorem ok_law_sum {f : Addr} {fd : FuncData} (F : Fun K "_law_sum" "_law_sum" s_law_sum f fd) (T : Txt K mg) : FnOk P w K mg base CX0 1 f fd ["_law_pair", "_law_pairs"] (pureSp sp_law_sum) := by
  refine fn_pure (t := t_law_sum) F sc_law_sum (fun a b c h => len_law_sum h) (fun cdv A outer s H E hr => ?_) (fun a b c h => law_law_sum h)
  exact qss_one (qs_ret (q_tup (qa_cons (q_op o_add (q_ix i_seq (q_var 0) (q_int)) (q_callB (c_sum rfl) (by rfl) T.sum_ bi_sum (qa_cons (q_lc (own := [("_law_row", 2)]) finL_ok rfl sc_law_sum.nd (qi_seq (q_var 1)) (blkOk_by (show blkC ["_law_pair", "_law_pairs", "_law_row"] (defScope s_law_sum) _ [("_law_row", 2)] = true from by decide +kernel)) (fun _ _ _ _ _ => qg_name (i := 2) sc_law_sum.nd rfl (.inl rfl)) (fun _ _ _ _ _ => qts_nil) (fun _ _ _ _ _ => q_ix i_seq (q_var 2) (q_int))) (qa_nil)))) (qa_cons (q_op o_add (q_ix i_seq (q_var 0) (q_int)) (q_callB (c_sum rfl) (by rfl) T.sum_ bi_sum (qa_cons (q_lc (own := [("_law_row", 2)]) finL_ok rfl sc_law_sum.nd (qi_seq (q_var 1)) (blkOk_by (show blkC ["_law_pair", "_law_pairs", "_law_row"] (defScope s_law_sum) _ [("_law_row", 2)] = true from by decide +kernel)) (fun _ _ _ _ _ => qg_name (i := 2) sc_law_sum.nd rfl (.inl rfl)) (fun _ _ _ _ _ => qts_nil) (fun _ _ _ _ _ => q_ix i_seq (q_var 2) (q_int))) (qa_nil)))) (qa_nil)))))
end


-- N = [(0, '_law_tree_here'), (1, '_law_ends_here'), (2, '_law_node'), (3, '_law_rule'), (4, '_law_z'), (5, '_law_h'), (6, '_law_part'), (7, '_law_rows'), (8, '_law_lower')]

abbrev s_law_bound : Stmt := topS 47

theorem sc_law_bound : FnScope ["_law_tree_here", "_law_ends_here", "_law_node", "_law_rule", "_law_z", "_law_h", "_law_part", "_law_rows", "_law_lower"] ["_law_tree_here", "_law_ends_here", "_law_node", "_law_rule", "_law_z", "_law_h"] (defScope s_law_bound) := ⟨rfl, rfl, rfl, by decide +kernel, rfl, by decide +kernel, by decide +kernel⟩

section
variable {P : Program} {w : World} {K : PySem.W.Frag} {mg : Str → Option Value} {base : Heap}
theorem ok_law_bound {f : Addr} {fd : FuncData} (F : Fun K "_law_bound" "_law_bound" s_law_bound f fd) (T : Txt K mg) {f_law_sum : Addr} {fd_law_sum : FuncData} (C_law_sum : Cal P w K mg base CX0 1 "_law_sum" ["_law_pair", "_law_pairs"] (pureSp sp_law_sum) f_law_sum fd_law_sum) : FnOk P w K mg base CX0 2 f fd ["_law_tree_here", "_law_ends_here", "_law_node", "_law_rule", "_law_z", "_law_h"] (pureSp sp_law_bound) := by
  refine fn_pure (t := t_law_bound) F sc_law_bound (fun a b c h => len_law_bound h) (fun cdv A outer s H E hr => ?_) (fun a b c h => law_law_bound h)
  exact qss_cons (qs_if (qt_cmp (o_ne hr.units) (q_tup (qa_cons (q_ix i_seq (q_var 3) (q_int)) (qa_cons (q_callB c_len (by rfl) T.len_ bi_len (qa_cons (q_ix i_seq (q_var 3) (q_int)) (qa_nil))) (qa_nil)))) (q_ix i_seq (q_var 0) (q_var 2)) (nomark _)) (qss_one (qs_ret (q_callP C_law_sum.ok hr (by rfl) C_law_sum.mg C_law_sum.kp C_law_sum.b pass0 (qa_cons (q_tup (qa_cons (q_op o_add (q_op o_sub (q_ix i_seq (q_var 1) (q_var 2)) (q_var 2)) (q_int)) (qa_cons (q_int) (qa_nil)))) (qa_cons (q_lc (own := [("_law_part", 6)]) finL_ok rfl sc_law_bound.nd (qi_seq (q_ix i_seq (q_var 3) (q_int))) (blkOk_by (show blkC ["_law_tree_here", "_law_ends_here", "_law_node", "_law_rule", "_law_z", "_law_h", "_law_part", "_law_rows", "_law_lower"] (defScope s_law_bound) _ [("_law_part", 6)] = true from by decide +kernel)) (fun _ _ _ _ _ => qg_name (i := 6) sc_law_bound.nd rfl (.inl rfl)) (fun _ _ _ _ _ => qts_nil) (fun _ _ _ _ _ => q_ix i_seq (q_var 4) (q_var 6))) (qa_nil)))))) (qss_nil))
    (qss_cons (qs_set (i := 7) sc_law_bound.nd rfl (.inl rfl) (q_lstM (qa_nil)))
    (qss_cons (qs_set (i := 8) sc_law_bound.nd rfl (.inl rfl) (q_op o_add (q_var 2) (q_int)))
    (qss_cons (qs_for (vs := [6]) PassesOwn.never rfl (qi_seq (q_ix i_seq (q_var 3) (q_int))) (qg_name (i := 6) sc_law_bound.nd rfl (.inl rfl)) (qss_cons (qs_expr (q_meth PySem.F.slot_list_append PySem.F.type_list_append m_append (q_var 7) (qa_cons (q_ix i_seq (q_ix i_seq (q_var 5) (q_var 8)) (q_var 6)) (qa_nil))))
    (qss_one (qs_set (i := 8) sc_law_bound.nd rfl (.inl rfl) (q_ix i_seq (q_var 1) (q_var 8))))))
    (qss_one (qs_ret (q_callBr C_law_sum.ok hr (by rfl) C_law_sum.mg C_law_sum.kp C_law_sum.b pass0 (qa_cons (q_tup (qa_cons (q_int) (qa_cons (q_int) (qa_nil)))) (qa_cons (q_var 7) (qa_nil)))))))))
end


-- N = [(0, '_law_grammar'), (1, '_law_tree_here'), (2, '_law_ends_here'), (3, '_law_top'), (4, '_law_z'), (5, '_law_turn'), (6, '_law_result'), (7, '_law_word'), (8, '_law_parts'), (9, '_law_h'), (10, '_law_k'), (11, '_law_node'), (12, '_law_rule'), (13, '_law_name'), (14, '_law_symbol'), (15, '_law_row'), (16, '_law_part')]

abbrev s_law_true : Stmt := topS 48

theorem sc_law_true : FnScope ["_law_grammar", "_law_tree_here", "_law_ends_here", "_law_top", "_law_z", "_law_turn", "_law_result", "_law_word", "_law_parts", "_law_h", "_law_k", "_law_node", "_law_rule", "_law_name", "_law_symbol", "_law_row", "_law_part"] ["_law_grammar", "_law_tree_here"] (defScope s_law_true) := ⟨rfl, rfl, rfl, by decide +kernel, rfl, by decide +kernel, by decide +kernel⟩

section
variable {P : Program} {w : World} {K : PySem.W.Frag} {mg : Str → Option Value} {base : Heap}
theorem ok_law_true {f : Addr} {fd : FuncData} (F : Fun K "_law_true" "_law_true" s_law_true f fd) (T : Txt K mg) {f_law_ends : Addr} {fd_law_ends : FuncData} (C_law_ends : Cal P w K mg base CX0 1 "_law_ends" ["_law_tree_here"] (pureSp sp_law_ends) f_law_ends fd_law_ends) {f_law_sum : Addr} {fd_law_sum : FuncData} (C_law_sum : Cal P w K mg base CX0 1 "_law_sum" ["_law_pair", "_law_pairs"] (pureSp sp_law_sum) f_law_sum fd_law_sum) {f_law_bound : Addr} {fd_law_bound : FuncData} (C_law_bound : Cal P w K mg base CX0 2 "_law_bound" ["_law_tree_here", "_law_ends_here", "_law_node", "_law_rule", "_law_z", "_law_h"] (pureSp sp_law_bound) f_law_bound fd_law_bound) : FnOk P w K mg base CX0 3 f fd ["_law_grammar", "_law_tree_here"] (pureSp sp_law_true) := by
  refine fn_pure (t := t_law_true) F sc_law_true (fun a b c h => len_law_true h) (fun cdv A outer s H E hr => ?_) (fun a b c h => law_law_true h)
  exact qss_cons (qs_set (i := 2) sc_law_true.nd rfl (.inl rfl) (q_callP C_law_ends.ok (hr.mono (by decide)) (by rfl) C_law_ends.mg C_law_ends.kp C_law_ends.b pass0 (qa_cons (q_var 1) (qa_nil))))
    (qss_cons (qs_set (i := 3) sc_law_true.nd rfl (.inr rfl) (q_tup (qa_cons (q_int) (qa_cons (q_int) (qa_nil)))))
    (qss_cons (qs_set (i := 4) sc_law_true.nd rfl (.inr rfl) (q_lc (own := [("_law_name", 13)]) finM_ok rfl sc_law_true.nd (qi_range (by rfl) T.range_ (q_ix i_seq (q_var 0) (q_int))) (blkOk_by (show blkC ["_law_grammar", "_law_tree_here", "_law_ends_here", "_law_top", "_law_z", "_law_turn", "_law_result", "_law_word", "_law_parts", "_law_h", "_law_k", "_law_node", "_law_rule", "_law_name", "_law_symbol", "_law_row", "_law_part"] (defScope s_law_true) _ [("_law_name", 13)] = true from by decide +kernel)) (fun _ _ _ _ _ => qg_name (i := 13) sc_law_true.nd rfl (.inl rfl)) (fun _ _ _ _ _ => qts_nil) (fun _ _ _ _ _ => q_var 3)))
    (qss_cons (qs_for (vs := [5]) PassesOwn.never rfl (qi_range (by rfl) T.range_ (q_ix i_seq (q_var 0) (q_int))) (qg_name (i := 5) sc_law_true.nd rfl (.inl rfl)) (qss_one (qs_for (vs := [6, 7, 8]) PassesOwn.never rfl (qi_seq (q_ix i_seq (q_var 0) (q_int))) (qg_tup rfl (qgs_cons (qg_name (i := 6) sc_law_true.nd rfl (.inl rfl)) (qgs_cons (qg_name (i := 7) sc_law_true.nd rfl (.inl rfl)) (qgs_cons (qg_name (i := 8) sc_law_true.nd rfl (.inl rfl)) (qgs_nil))))) (qss_one (qs_asg (vs := []) (q_callB (c_min2 rfl hr.units) (by rfl) T.min_ bi_min (qa_cons (q_ix i_seq (q_var 4) (q_var 6)) (qa_cons (q_callP C_law_sum.ok (hr.mono (by decide)) (by rfl) C_law_sum.mg C_law_sum.kp C_law_sum.b pass0 (qa_cons (q_tup (qa_cons (q_int) (qa_cons (q_int) (qa_nil)))) (qa_cons (q_lc (own := [("_law_part", 16)]) finL_ok rfl sc_law_true.nd (qi_seq (q_var 8)) (blkOk_by (show blkC ["_law_grammar", "_law_tree_here", "_law_ends_here", "_law_top", "_law_z", "_law_turn", "_law_result", "_law_word", "_law_parts", "_law_h", "_law_k", "_law_node", "_law_rule", "_law_name", "_law_symbol", "_law_row", "_law_part"] (defScope s_law_true) _ [("_law_part", 16)] = true from by decide +kernel)) (fun _ _ _ _ _ => qg_name (i := 16) sc_law_true.nd rfl (.inl rfl)) (fun _ _ _ _ _ => qts_nil) (fun _ _ _ _ _ => q_ix i_seq (q_var 4) (q_var 16))) (qa_nil)))) (qa_nil)))) (qg_sub (q_var 4) (q_var 6) (p_setL)))))))
    (qss_cons (qs_setLc (i := 9) (own := [("_law_symbol", 14)]) finM_ok rfl sc_law_true.nd rfl rfl (sw_true rfl rfl rfl (by decide +kernel)) (qi_seq (q_var 1)) (blkOk_by (show blkC ["_law_grammar", "_law_tree_here", "_law_ends_here", "_law_top", "_law_z", "_law_turn", "_law_result", "_law_word", "_law_parts", "_law_h", "_law_k", "_law_node", "_law_rule", "_law_name", "_law_symbol", "_law_row", "_law_part"] (defScope s_law_true) _ [("_law_symbol", 14)] = true from by decide +kernel)) (fun _ _ _ _ _ => qg_name (i := 14) sc_law_true.nd rfl (.inl rfl)) (fun _ _ _ _ _ => qts_nil) (fun _ _ _ _ _ => q_lc (own := [("_law_name", 13)]) finM_ok rfl sc_law_true.nd (qi_range (by rfl) T.range_ (q_ix i_seq (q_var 0) (q_int))) (blkOk_by (by rfl)) (fun _ _ _ _ _ => qg_name (i := 13) sc_law_true.nd rfl (.inl rfl)) (fun _ _ _ _ _ => qts_nil) (fun _ _ _ _ _ => q_var 3)))
    (qss_cons (qs_for (vs := [10]) PassesOwn.never rfl (qi_range (by rfl) T.range_ (q_callB c_len (by rfl) T.len_ bi_len (qa_cons (q_var 1) (qa_nil)))) (qg_name (i := 10) sc_law_true.nd rfl (.inl rfl)) (qss_cons (qs_set (i := 11) sc_law_true.nd rfl (.inl rfl) (q_op o_sub (q_op o_sub (q_callB c_len (by rfl) T.len_ bi_len (qa_cons (q_var 1) (qa_nil))) (q_int)) (q_var 10)))
    (qss_one (qs_for (vs := [12]) PassesOwn.never rfl (qi_seq (q_ix i_seq (q_var 0) (q_int))) (qg_name (i := 12) sc_law_true.nd rfl (.inl rfl)) (qss_one (qs_asg (vs := []) (q_callB (c_min2 rfl hr.units) (by rfl) T.min_ bi_min (qa_cons (q_ix i_seq (q_ix i_seq (q_var 9) (q_var 11)) (q_ix i_seq (q_var 12) (q_int))) (qa_cons (q_callBr C_law_bound.ok hr (by rfl) C_law_bound.mg C_law_bound.kp C_law_bound.b pass0 (qa_cons (q_var 1) (qa_cons (q_var 2) (qa_cons (q_var 11) (qa_cons (q_var 12) (qa_cons (q_var 4) (qa_cons (q_var 9) (qa_nil)))))))) (qa_nil)))) (qg_sub (q_ix i_seq (q_var 9) (q_var 11)) (q_ix i_seq (q_var 12) (q_int)) (p_setL))))))))
    (qss_one (qs_ret (q_tup (qa_cons (q_callTy c_tuple (by rfl) T.tuple_ bi_tuple (qa_cons (q_var 4) (qa_nil))) (qa_cons (q_callTy c_tuple (by rfl) T.tuple_ bi_tuple (qa_cons (q_lc (own := [("_law_row", 15)]) finL_ok rfl sc_law_true.nd (qi_seq (q_var 9)) (blkOk_by (show blkC ["_law_grammar", "_law_tree_here", "_law_ends_here", "_law_top", "_law_z", "_law_turn", "_law_result", "_law_word", "_law_parts", "_law_h", "_law_k", "_law_node", "_law_rule", "_law_name", "_law_symbol", "_law_row", "_law_part"] (defScope s_law_true) _ [("_law_row", 15)] = true from by decide +kernel)) (fun _ _ _ _ _ => qg_name (i := 15) sc_law_true.nd rfl (.inl rfl)) (fun _ _ _ _ _ => qts_nil) (fun _ _ _ _ _ => q_callTy c_tuple (by rfl) T.tuple_ bi_tuple (qa_cons (q_var 15) (qa_nil)))) (qa_nil))) (qa_nil)))))))))))
end


-- N = [(0, '_law_thing'), (1, '_law_many'), (2, '_law_pair'), (3, '_law_number')]

abbrev s_law_is_row : Stmt := topS 49

theorem sc_law_is_row : FnScope ["_law_thing", "_law_many", "_law_pair", "_law_number"] ["_law_thing", "_law_many"] (defScope s_law_is_row) := ⟨rfl, rfl, rfl, by decide +kernel, rfl, by decide +kernel, by decide +kernel⟩

section
variable {P : Program} {w : World} {K : PySem.W.Frag} {mg : Str → Option Value} {base : Heap}
theorem ok_law_is_row {f : Addr} {fd : FuncData} (F : Fun K "_law_is_row" "_law_is_row" s_law_is_row f fd) (T : Txt K mg) : FnOk P w K mg base CX0 1 f fd ["_law_thing", "_law_many"] (pureSp sp_law_is_row) := by
  refine fn_pure (t := t_law_is_row) F sc_law_is_row (fun a b c h => len_law_is_row h) (fun cdv A outer s H E hr => ?_) (fun a b c h => law_law_is_row h)
  exact qss_cons (qs_if (PW.pt (qw_or (qt_not (qt_val (q_isi okTy_tuple (by rfl) T.isinstance_ bi_isinstance (by rfl) T.tuple_ bi_tuple (q_var 0)))) (qw_or1 (qt_cmp (o_ne hr.units) (q_callB c_len (by rfl) T.len_ bi_len (qa_cons (q_var 0) (qa_nil))) (q_var 1) (nomark _))))) (qss_one (qs_ret (q_bl))) (qss_nil))
    (qss_cons (qs_for (vs := [2]) PassesOwn.never rfl (qi_seq (q_var 0)) (qg_name (i := 2) sc_law_is_row.nd rfl (.inl rfl)) (qss_cons (qs_if (PW.pt (qw_or (qt_not (qt_val (q_isi okTy_tuple (by rfl) T.isinstance_ bi_isinstance (by rfl) T.tuple_ bi_tuple (q_var 2)))) (qw_or1 (qt_cmp (o_ne hr.units) (q_callB c_len (by rfl) T.len_ bi_len (qa_cons (q_var 2) (qa_nil))) (q_int) (nomark _))))) (qss_one (qs_ret (q_bl))) (qss_nil))
    (qss_one (qs_for (vs := [3]) PassesOwn.never rfl (qi_seq (q_var 2)) (qg_name (i := 3) sc_law_is_row.nd rfl (.inl rfl)) (qss_one (qs_if (PW.pt (qw_or (qt_val (q_isi okTy_bool (by rfl) T.isinstance_ bi_isinstance (by rfl) T.bool_ bi_bool (q_var 3))) (qw_or1 (qt_not (qt_val (q_isi okTy_int (by rfl) T.isinstance_ bi_isinstance (by rfl) T.int_ bi_int (q_var 3))))))) (qss_one (qs_ret (q_bl))) (qss_nil)))))))
    (qss_one (qs_ret (q_bl))))
end


-- N = [(0, '_law_grammar'), (1, '_law_tree_here'), (2, '_law_thing'), (3, '_law_z'), (4, '_law_h'), (5, '_law_ends_here'), (6, '_law_k'), (7, '_law_node'), (8, '_law_row'), (9, '_law_rule'), (10, '_law_start'), (11, '_law_part')]

abbrev s_law_judged : Stmt := topS 50

theorem sc_law_judged : FnScope ["_law_grammar", "_law_tree_here", "_law_thing", "_law_z", "_law_h", "_law_ends_here", "_law_k", "_law_node", "_law_row", "_law_rule", "_law_start", "_law_part"] ["_law_grammar", "_law_tree_here", "_law_thing"] (defScope s_law_judged) := ⟨rfl, rfl, rfl, by decide +kernel, rfl, by decide +kernel, by decide +kernel⟩

section
variable {P : Program} {w : World} {K : PySem.W.Frag} {mg : Str → Option Value} {base : Heap}
theorem ok_law_judged {f : Addr} {fd : FuncData} (F : Fun K "_law_judged" "_law_judged" s_law_judged f fd) (T : Txt K mg) {f_law_is_row : Addr} {fd_law_is_row : FuncData} (C_law_is_row : Cal P w K mg base CX0 1 "_law_is_row" ["_law_thing", "_law_many"] (pureSp sp_law_is_row) f_law_is_row fd_law_is_row) {f_law_ends : Addr} {fd_law_ends : FuncData} (C_law_ends : Cal P w K mg base CX0 1 "_law_ends" ["_law_tree_here"] (pureSp sp_law_ends) f_law_ends fd_law_ends) {f_law_sum : Addr} {fd_law_sum : FuncData} (C_law_sum : Cal P w K mg base CX0 1 "_law_sum" ["_law_pair", "_law_pairs"] (pureSp sp_law_sum) f_law_sum fd_law_sum) {f_law_bound : Addr} {fd_law_bound : FuncData} (C_law_bound : Cal P w K mg base CX0 2 "_law_bound" ["_law_tree_here", "_law_ends_here", "_law_node", "_law_rule", "_law_z", "_law_h"] (pureSp sp_law_bound) f_law_bound fd_law_bound) : FnOk P w K mg base CX0 3 f fd ["_law_grammar", "_law_tree_here", "_law_thing"] (pureSp sp_law_judged) := by
  refine fn_pure (t := t_law_judged) F sc_law_judged (fun a b c h => len_law_judged h) (fun cdv A outer s H E hr => ?_) (fun a b c h => law_law_judged h)
  exact qss_cons (qs_if (PW.pt (qw_or (qt_not (qt_val (q_isi okTy_tuple (by rfl) T.isinstance_ bi_isinstance (by rfl) T.tuple_ bi_tuple (q_var 2)))) (qw_or (qt_cmp (o_ne hr.units) (q_callB c_len (by rfl) T.len_ bi_len (qa_cons (q_var 2) (qa_nil))) (q_int) (nomark _)) (qw_or1 (qt_not (qt_val (q_callP C_law_is_row.ok (hr.mono (by decide)) (by rfl) C_law_is_row.mg C_law_is_row.kp C_law_is_row.b pass0 (qa_cons (q_ix i_seq (q_var 2) (q_int)) (qa_cons (q_ix i_seq (q_var 0) (q_int)) (qa_nil)))))))))) (qss_one (qs_ret (q_tup (qa_cons (q_str) (qa_cons (q_neg (q_int)) (qa_nil)))))) (qss_nil))
    (qss_cons (qs_if (PW.pt (qw_or (qt_not (qt_val (q_isi okTy_tuple (by rfl) T.isinstance_ bi_isinstance (by rfl) T.tuple_ bi_tuple (q_ix i_seq (q_var 2) (q_int))))) (qw_or1 (qt_cmp (o_ne hr.units) (q_callB c_len (by rfl) T.len_ bi_len (qa_cons (q_ix i_seq (q_var 2) (q_int)) (qa_nil))) (q_callB c_len (by rfl) T.len_ bi_len (qa_cons (q_var 1) (qa_nil))) (nomark _))))) (qss_one (qs_ret (q_tup (qa_cons (q_str) (qa_cons (q_neg (q_int)) (qa_nil)))))) (qss_nil))
    (qss_cons (qs_if (qt_not (qt_val (q_callB (c_all rfl) (by rfl) T.all_ bi_all (qa_cons (q_lc (own := [("_law_row", 8)]) finL_ok rfl sc_law_judged.nd (qi_seq (q_ix i_seq (q_var 2) (q_int))) (blkOk_by (show blkC ["_law_grammar", "_law_tree_here", "_law_thing", "_law_z", "_law_h", "_law_ends_here", "_law_k", "_law_node", "_law_row", "_law_rule", "_law_start", "_law_part"] (defScope s_law_judged) _ [("_law_row", 8)] = true from by decide +kernel)) (fun _ _ _ _ _ => qg_name (i := 8) sc_law_judged.nd rfl (.inl rfl)) (fun _ _ _ _ _ => qts_nil) (fun _ _ _ _ _ => q_callP C_law_is_row.ok (hr.mono (by decide)) (by rfl) C_law_is_row.mg C_law_is_row.kp C_law_is_row.b pass0 (qa_cons (q_var 8) (qa_cons (q_ix i_seq (q_var 0) (q_int)) (qa_nil))))) (qa_nil))))) (qss_one (qs_ret (q_tup (qa_cons (q_str) (qa_cons (q_neg (q_int)) (qa_nil)))))) (qss_nil))
    (qss_cons (qs_asg (vs := [3, 4]) (q_var 2) (qg_tup rfl (qgs_cons (qg_name (i := 3) sc_law_judged.nd rfl (.inr rfl)) (qgs_cons (qg_name (i := 4) sc_law_judged.nd rfl (.inr rfl)) (qgs_nil)))))
    (qss_cons (qs_set (i := 5) sc_law_judged.nd rfl (.inr rfl) (q_callP C_law_ends.ok (hr.mono (by decide)) (by rfl) C_law_ends.mg C_law_ends.kp C_law_ends.b pass0 (qa_cons (q_var 1) (qa_nil))))
    (qss_cons (qs_for (vs := [6]) PassesOwn.never rfl (qi_range (by rfl) T.range_ (q_callB c_len (by rfl) T.len_ bi_len (qa_cons (q_ix i_seq (q_var 0) (q_int)) (qa_nil)))) (qg_name (i := 6) sc_law_judged.nd rfl (.inl rfl)) (qss_one (qs_if (qt_cmp (o_gt hr.units) (q_ix i_seq (q_var 3) (q_ix i_seq (q_ix i_seq (q_ix i_seq (q_var 0) (q_int)) (q_var 6)) (q_int))) (q_callP C_law_sum.ok (hr.mono (by decide)) (by rfl) C_law_sum.mg C_law_sum.kp C_law_sum.b pass0 (qa_cons (q_tup (qa_cons (q_int) (qa_cons (q_int) (qa_nil)))) (qa_cons (q_lc (own := [("_law_part", 11)]) finL_ok rfl sc_law_judged.nd (qi_seq (q_ix i_seq (q_ix i_seq (q_ix i_seq (q_var 0) (q_int)) (q_var 6)) (q_int))) (blkOk_by (show blkC ["_law_grammar", "_law_tree_here", "_law_thing", "_law_z", "_law_h", "_law_ends_here", "_law_k", "_law_node", "_law_row", "_law_rule", "_law_start", "_law_part"] (defScope s_law_judged) _ [("_law_part", 11)] = true from by decide +kernel)) (fun _ _ _ _ _ => qg_name (i := 11) sc_law_judged.nd rfl (.inl rfl)) (fun _ _ _ _ _ => qts_nil) (fun _ _ _ _ _ => q_ix i_seq (q_var 3) (q_var 11))) (qa_nil)))) (nomark _)) (qss_one (qs_ret (q_tup (qa_cons (q_str) (qa_cons (q_var 6) (qa_nil)))))) (qss_nil))))
    (qss_cons (qs_for (vs := [7]) PassesOwn.never rfl (qi_range (by rfl) T.range_ (q_callB c_len (by rfl) T.len_ bi_len (qa_cons (q_var 1) (qa_nil)))) (qg_name (i := 7) sc_law_judged.nd rfl (.inr rfl)) (qss_one (qs_if (qt_val (q_callB (c_any rfl) (by rfl) T.any_ bi_any (qa_cons (q_lc (own := [("_law_rule", 9)]) finL_ok rfl sc_law_judged.nd (qi_seq (q_ix i_seq (q_var 0) (q_int))) (blkOk_by (show blkC ["_law_grammar", "_law_tree_here", "_law_thing", "_law_z", "_law_h", "_law_ends_here", "_law_k", "_law_node", "_law_row", "_law_rule", "_law_start", "_law_part"] (defScope s_law_judged) _ [("_law_rule", 9)] = true from by decide +kernel)) (fun _ _ _ _ _ => qg_name (i := 9) sc_law_judged.nd rfl (.inl rfl)) (fun _ _ _ _ _ => qts_nil) (fun _ _ _ _ _ => q_cmp (o_gt hr.units) (q_ix i_seq (q_ix i_seq (q_var 4) (q_var 7)) (q_ix i_seq (q_var 9) (q_int))) (q_callP C_law_bound.ok hr (by rfl) C_law_bound.mg C_law_bound.kp C_law_bound.b pass0 (qa_cons (q_var 1) (qa_cons (q_var 5) (qa_cons (q_var 7) (qa_cons (q_var 9) (qa_cons (q_var 3) (qa_cons (q_var 4) (qa_nil)))))))) (nomark _))) (qa_nil)))) (qss_one (qs_ret (q_tup (qa_cons (q_str) (qa_cons (q_var 7) (qa_nil)))))) (qss_nil))))
    (qss_one (qs_ret (q_tup (qa_cons (q_str) (qa_cons (q_callB (c_min rfl hr.units) (by rfl) T.min_ bi_min (qa_cons (q_lc (own := [("_law_start", 10)]) finL_ok rfl sc_law_judged.nd (qi_seq (q_ix i_seq (q_var 0) (q_int))) (blkOk_by (show blkC ["_law_grammar", "_law_tree_here", "_law_thing", "_law_z", "_law_h", "_law_ends_here", "_law_k", "_law_node", "_law_row", "_law_rule", "_law_start", "_law_part"] (defScope s_law_judged) _ [("_law_start", 10)] = true from by decide +kernel)) (fun _ _ _ _ _ => qg_name (i := 10) sc_law_judged.nd rfl (.inl rfl)) (fun _ _ _ _ _ => qts_nil) (fun _ _ _ _ _ => q_ix i_seq (q_ix i_seq (q_var 4) (q_int)) (q_var 10))) (qa_nil))) (qa_nil))))))))))))
end


-- N = [(0, '_law_told'), (1, '_law_due'), (2, '_law_todo'), (3, '_law_one'), (4, '_law_two')]

abbrev s_law_same : Stmt := topS 51

theorem sc_law_same : FnScope ["_law_told", "_law_due", "_law_todo", "_law_one", "_law_two"] ["_law_told", "_law_due"] (defScope s_law_same) := ⟨rfl, rfl, rfl, by decide +kernel, rfl, by decide +kernel, by decide +kernel⟩

section
variable {P : Program} {w : World} {K : PySem.W.Frag} {mg : Str → Option Value} {base : Heap}
theorem ok_law_same {f : Addr} {fd : FuncData} (F : Fun K "_law_same" "_law_same" s_law_same f fd) (T : Txt K mg) : FnOk P w K mg base CX0 1 f fd ["_law_told", "_law_due"] (pureSp sp_law_same) := by
  refine fn_pure (t := t_law_same) F sc_law_same (fun a b c h => len_law_same h) (fun cdv A outer s H E hr => ?_) (fun a b c h => law_law_same h)
  exact qss_cons (qs_set (i := 2) sc_law_same.nd rfl (.inl rfl) (q_lstM (qa_cons (q_tup (qa_cons (q_var 0) (qa_cons (q_var 1) (qa_nil)))) (qa_nil))))
    (qss_cons (qs_while PassesOwn.never (qt_cmp (o_gt hr.units) (q_callB c_len (by rfl) T.len_ bi_len (qa_cons (q_var 2) (qa_nil))) (q_int) (nomark _)) (qss_cons (qs_asg (vs := [3, 4]) (q_meth0 PySem.F.slot_list_pop PySem.F.type_list_pop m_pop (q_var 2)) (qg_tup rfl (qgs_cons (qg_name (i := 3) sc_law_same.nd rfl (.inl rfl)) (qgs_cons (qg_name (i := 4) sc_law_same.nd rfl (.inl rfl)) (qgs_nil)))))
    (qss_one (qs_if (qt_val (q_isi okTy_tuple (by rfl) T.isinstance_ bi_isinstance (by rfl) T.tuple_ bi_tuple (q_var 4))) (qss_cons (qs_if (PW.pt (qw_or (qt_not (qt_val (q_isi okTy_tuple (by rfl) T.isinstance_ bi_isinstance (by rfl) T.tuple_ bi_tuple (q_var 3)))) (qw_or1 (qt_cmp (o_ne hr.units) (q_callB c_len (by rfl) T.len_ bi_len (qa_cons (q_var 3) (qa_nil))) (q_callB c_len (by rfl) T.len_ bi_len (qa_cons (q_var 4) (qa_nil))) (nomark _))))) (qss_one (qs_ret (q_bl))) (qss_nil))
    (qss_one (qs_expr (q_meth PySem.F.slot_list_extend PySem.F.type_list_extend m_extend (q_var 2) (qa_cons (q_listZip (air_calm rfl) (by rfl) T.list_ (by rfl) T.zip_ (q_var 3) (q_var 4)) (qa_nil)))))) (qss_one (qs_if (qt_val (q_isi okTy_str (by rfl) T.isinstance_ bi_isinstance (by rfl) T.str_ bi_str (q_var 4))) (qss_one (qs_if (PW.pt (qw_or (qt_not (qt_val (q_isi okTy_str (by rfl) T.isinstance_ bi_isinstance (by rfl) T.str_ bi_str (q_var 3)))) (qw_or1 (qt_cmp (o_ne hr.units) (q_var 3) (q_var 4) (nomark _))))) (qss_one (qs_ret (q_bl))) (qss_nil))) (qss_one (qs_if (PW.pt (qw_or (qt_cmp o_is (q_var 4) (q_non) (nomark _)) (qw_or (qt_cmp o_is (q_var 4) (q_bl) (nomark _)) (qw_or1 (qt_cmp o_is (q_var 4) (q_bl) (nomark _)))))) (qss_one (qs_if (qt_not (PW.pt (qw_or (PW.pt (qw_and (qt_cmp o_is (q_var 3) (q_non) (nomark _)) (qw_and1 (qt_cmp o_is (q_var 4) (q_non) (nomark _))))) (qw_or (PW.pt (qw_and (qt_cmp o_is (q_var 3) (q_bl) (nomark _)) (qw_and1 (qt_cmp o_is (q_var 4) (q_bl) (nomark _))))) (qw_or1 (PW.pt (qw_and (qt_cmp o_is (q_var 3) (q_bl) (nomark _)) (qw_and1 (qt_cmp o_is (q_var 4) (q_bl) (nomark _)))))))))) (qss_one (qs_ret (q_bl))) (qss_nil))) (qss_one (qs_if (PW.pt (qw_or (qt_val (q_isi okTy_bool (by rfl) T.isinstance_ bi_isinstance (by rfl) T.bool_ bi_bool (q_var 3))) (qw_or (qt_not (qt_val (q_isi okTy_int (by rfl) T.isinstance_ bi_isinstance (by rfl) T.int_ bi_int (q_var 3)))) (qw_or1 (qt_cmp (o_ne hr.units) (q_var 3) (q_var 4) (nomark _)))))) (qss_one (qs_ret (q_bl))) (qss_nil)))))))))))
    (qss_one (qs_ret (q_bl))))
end


-- N = [(0, '_law_grammar'), (1, '_law_tree_here'), (2, '_law_thing'), (3, '_law_due'), (4, '_law_told'), (5, 'e')]

abbrev s_law_right : Stmt := topS 53

theorem sc_law_right : FnScope ["_law_grammar", "_law_tree_here", "_law_thing", "_law_due", "_law_told", "e"] ["_law_grammar", "_law_tree_here", "_law_thing"] (defScope s_law_right) := ⟨rfl, rfl, rfl, by decide +kernel, rfl, by decide +kernel, by decide +kernel⟩

section
variable {P : Program} {w : World} {K : PySem.W.Frag} {mg : Str → Option Value} {base : Heap}
theorem ok_law_right {f : Addr} {fd : FuncData} (F : Fun K "_law_right" "_law_right" s_law_right f fd) (T : Txt K mg) {f_law_judged : Addr} {fd_law_judged : FuncData} (C_law_judged : Cal P w K mg base CX0 3 "_law_judged" ["_law_grammar", "_law_tree_here", "_law_thing"] (pureSp sp_law_judged) f_law_judged fd_law_judged) {f_lets_floors : Addr} {fd_lets_floors : FuncData} (C_lets_floors : Cal P w K mg base (L2N.CX P w) 6 "lets_floors" ["driven", "tree", "thing"] (pureSp (sp_lets_floors C_NotUsable C_InvalidPaper)) f_lets_floors fd_lets_floors) {f_law_same : Addr} {fd_law_same : FuncData} (C_law_same : Cal P w K mg base CX0 1 "_law_same" ["_law_told", "_law_due"] (pureSp sp_law_same) f_law_same fd_law_same) {fI_InvalidPaper : Addr} {fd_InvalidPaper : FuncData} (T_InvalidPaper : Rai P w K mg base "InvalidPaper" C_InvalidPaper fI_InvalidPaper fd_InvalidPaper) {f_law_sameH : Addr} {fd_law_sameH : FuncData} (H_law_same : CalH P w K mg base 1 "_law_same" ["_law_told", "_law_due"] sp_law_same f_law_sameH fd_law_sameH) : FnOk P w K mg base CX0 7 f fd ["_law_grammar", "_law_tree_here", "_law_thing"] (pureSp sp_law_right) := by
  refine fn_pure (t := t_law_right C_NotUsable C_InvalidPaper) F sc_law_right (fun a b c h => len_law_right h) (fun cdv A outer s H E hr => ?_) (fun a b c h => law_law_right h)
  exact qss_cons (qs_set (i := 3) sc_law_right.nd rfl (.inl rfl) (q_callP C_law_judged.ok (hr.mono (by decide)) (by rfl) C_law_judged.mg C_law_judged.kp C_law_judged.b pass0 (qa_cons (q_var 0) (qa_cons (q_var 1) (qa_cons (q_var 2) (qa_nil))))))
    (qss_cons (qs_try (i := 5) T_InvalidPaper.err rfl rfl sc_law_right.nd rfl rfl ⟨rfl, by decide, .inl T_InvalidPaper.gC⟩ (fun pn xe po => qss_one (qs_asgX (i := 4) C_lets_floors.ok (hr.mono (by decide)) (by rfl) C_lets_floors.mg C_lets_floors.kp C_lets_floors.b sc_law_right.nd rfl (.inl rfl) (qa_cons (q_var 0) (qa_cons (q_var 1) (qa_cons (q_var 2) (qa_nil))))))
    (fun a oe cls dd pn hz hv ec => qss_one (qs_ret (q_and (q_cmp (o_ne hr.units) (q_ix i_seq (q_var 3) (q_int)) (q_str) (nomark _)) (q_one (q_callPH H_law_same.ok (roomH_suite (hr.mono (j := 1) (by decide))) (hot_suite hz hv) (by rfl) H_law_same.mg H_law_same.kp H_law_same.b (qa_cons (q_tup (qa_cons (q_word T_InvalidPaper.err hz.zc hv ec (q_var 5)) (qa_cons (q_at T_InvalidPaper.err hz.zc hv ec (q_var 5)) (qa_nil)))) (qa_cons (q_var 3) (qa_nil)))))))))
    (qss_one (qs_ret (q_and (q_cmp (o_eq hr.units) (q_ix i_seq (q_var 3) (q_int)) (q_str) (nomark _)) (q_one (q_callP C_law_same.ok (hr.mono (by decide)) (by rfl) C_law_same.mg C_law_same.kp C_law_same.b pass0 (qa_cons (q_var 4) (qa_cons (q_ix i_seq (q_var 3) (q_int)) (qa_nil)))))))))
end


-- N = [(0, '_law_tape'), (1, '_law_grammar'), (2, '_law_sheet'), (3, '_law_row'), (4, '_law_z'), (5, '_law_h'), (6, '_law_more'), (7, '_law_name'), (8, '_law_line')]

abbrev s_law_bent : Stmt := topS 54

theorem sc_law_bent : FnScope ["_law_tape", "_law_grammar", "_law_sheet", "_law_row", "_law_z", "_law_h", "_law_more", "_law_name", "_law_line"] ["_law_tape", "_law_grammar", "_law_sheet"] (defScope s_law_bent) := ⟨rfl, rfl, rfl, by decide +kernel, rfl, by decide +kernel, by decide +kernel⟩

section
variable {P : Program} {w : World} {K : PySem.W.Frag} {mg : Str → Option Value} {base : Heap}
theorem ok_law_bent {f : Addr} {fd : FuncData} (F : Fun K "_law_bent" "_law_bent" s_law_bent f fd) (T : Txt K mg) {f_law_pick : Addr} {fd_law_pick : FuncData} (C_law_pick : Cal P w K mg base CX0 1 "_law_pick" ["_law_tape", "_law_many"] (memSp sp_law_pick) f_law_pick fd_law_pick) : FnOk P w K mg base CX0 2 f fd ["_law_tape", "_law_grammar", "_law_sheet"] (memSp sp_law_bent) := by
  refine fn_mem (t := t_law_bent) F sc_law_bent (fun a b c h => len_law_bent h) (fun cdv A outer s H E hr => ?_) (fun a b c h => law_law_bent h)
  exact qss_cons (qs_par rfl sc_law_bent.nd rfl rfl (by decide) rfl rfl (qa_cons (q_callTy c_listM (by rfl) T.list_ bi_list (qa_cons (q_ix i_seq (q_var 2) (q_int)) (qa_nil))) (qa_cons (q_lc (own := [("_law_row", 3)]) finM_ok rfl sc_law_bent.nd (qi_seq (q_ix i_seq (q_var 2) (q_int))) (blkOk_by (show blkC ["_law_tape", "_law_grammar", "_law_sheet", "_law_row", "_law_z", "_law_h", "_law_more", "_law_name", "_law_line"] (defScope s_law_bent) _ [("_law_row", 3)] = true from by decide +kernel)) (fun _ _ _ _ _ => qg_name (i := 3) sc_law_bent.nd rfl (.inl rfl)) (fun _ _ _ _ _ => qts_nil) (fun _ _ _ _ _ => q_callTy c_listM (by rfl) T.list_ bi_list (qa_cons (q_var 3) (qa_nil)))) (qa_nil))) (by rfl))
    (qss_cons (qs_set (i := 6) sc_law_bent.nd rfl (.inl rfl) (q_ix i_seq (q_lst (qa_cons (q_int) (qa_cons (q_neg (q_int)) (qa_cons (q_int) (qa_cons (q_neg (q_int)) (qa_cons (q_op o_pow (q_int) (q_int)) (qa_cons (q_neg (q_op o_pow (q_int) (q_int))) (qa_cons (q_int) (qa_nil))))))))) (q_callM C_law_pick.ok hr (by rfl) C_law_pick.mg C_law_pick.kp C_law_pick.b pass0 (qa_cons (q_var 0) (qa_cons (q_int) (qa_nil))))))
    (qss_cons (qs_set (i := 7) sc_law_bent.nd rfl (.inl rfl) (q_callM C_law_pick.ok hr (by rfl) C_law_pick.mg C_law_pick.kp C_law_pick.b pass0 (qa_cons (q_var 0) (qa_cons (q_ix i_seq (q_var 1) (q_int)) (qa_nil)))))
    (qss_cons (qs_set (i := 3) sc_law_bent.nd rfl (.inl rfl) (q_var 4))
    (qss_cons (qs_if (qt_cmp (o_gt hr.units) (q_callM C_law_pick.ok hr (by rfl) C_law_pick.mg C_law_pick.kp C_law_pick.b pass0 (qa_cons (q_var 0) (qa_cons (q_int) (qa_nil)))) (q_int) (nomark _)) (qss_one (qs_set (i := 3) sc_law_bent.nd rfl (.inl rfl) (q_ix i_seq (q_var 5) (q_ix i_seq (q_lst (qa_cons (q_int) (qa_cons (q_callM C_law_pick.ok hr (by rfl) C_law_pick.mg C_law_pick.kp C_law_pick.b pass0 (qa_cons (q_var 0) (qa_cons (q_callB c_len (by rfl) T.len_ bi_len (qa_cons (q_var 5) (qa_nil))) (qa_nil)))) (qa_cons (q_op o_sub (q_callB c_len (by rfl) T.len_ bi_len (qa_cons (q_var 5) (qa_nil))) (q_int)) (qa_nil))))) (q_callM C_law_pick.ok hr (by rfl) C_law_pick.mg C_law_pick.kp C_law_pick.b pass0 (qa_cons (q_var 0) (qa_cons (q_int) (qa_nil)))))))) (qss_nil))
    (qss_cons (qs_if (qt_cmp (o_eq hr.units) (q_callM C_law_pick.ok hr (by rfl) C_law_pick.mg C_law_pick.kp C_law_pick.b pass0 (qa_cons (q_var 0) (qa_cons (q_int) (qa_nil)))) (q_int) (nomark _)) (qss_one (qs_asg (vs := []) (q_tup (qa_cons (q_op o_add (q_ix i_seq (q_ix i_seq (q_var 3) (q_var 7)) (q_int)) (q_var 6)) (qa_cons (q_ix i_seq (q_ix i_seq (q_var 3) (q_var 7)) (q_int)) (qa_nil)))) (qg_sub (q_var 3) (q_var 7) (p_setL)))) (qss_one (qs_asg (vs := []) (q_tup (qa_cons (q_ix i_seq (q_ix i_seq (q_var 3) (q_var 7)) (q_int)) (qa_cons (q_op o_add (q_ix i_seq (q_ix i_seq (q_var 3) (q_var 7)) (q_int)) (q_var 6)) (qa_nil)))) (qg_sub (q_var 3) (q_var 7) (p_setL)))))
    (qss_one (qs_ret (q_tup (qa_cons (q_callTy c_tuple (by rfl) T.tuple_ bi_tuple (qa_cons (q_var 4) (qa_nil))) (qa_cons (q_callTy c_tuple (by rfl) T.tuple_ bi_tuple (qa_cons (q_lc (own := [("_law_line", 8)]) finL_ok rfl sc_law_bent.nd (qi_seq (q_var 5)) (blkOk_by (show blkC ["_law_tape", "_law_grammar", "_law_sheet", "_law_row", "_law_z", "_law_h", "_law_more", "_law_name", "_law_line"] (defScope s_law_bent) _ [("_law_line", 8)] = true from by decide +kernel)) (fun _ _ _ _ _ => qg_name (i := 8) sc_law_bent.nd rfl (.inl rfl)) (fun _ _ _ _ _ => qts_nil) (fun _ _ _ _ _ => q_callTy c_tuple (by rfl) T.tuple_ bi_tuple (qa_cons (q_var 8) (qa_nil)))) (qa_nil))) (qa_nil)))))))))))
end


-- N = [(0, '_law_tape'), (1, '_law_grammar'), (2, '_law_tree_here'), (3, '_law_z'), (4, '_law_low'), (5, '_law_h'), (6, '_law_node'), (7, '_law_name')]

abbrev s_law_drawn : Stmt := topS 55

theorem sc_law_drawn : FnScope ["_law_tape", "_law_grammar", "_law_tree_here", "_law_z", "_law_low", "_law_h", "_law_node", "_law_name"] ["_law_tape", "_law_grammar", "_law_tree_here"] (defScope s_law_drawn) := ⟨rfl, rfl, rfl, by decide +kernel, rfl, by decide +kernel, by decide +kernel⟩

section
variable {P : Program} {w : World} {K : PySem.W.Frag} {mg : Str → Option Value} {base : Heap}
theorem ok_law_drawn {f : Addr} {fd : FuncData} (F : Fun K "_law_drawn" "_law_drawn" s_law_drawn f fd) (T : Txt K mg) {f_law_pick : Addr} {fd_law_pick : FuncData} (C_law_pick : Cal P w K mg base CX0 1 "_law_pick" ["_law_tape", "_law_many"] (memSp sp_law_pick) f_law_pick fd_law_pick) : FnOk P w K mg base CX0 2 f fd ["_law_tape", "_law_grammar", "_law_tree_here"] (memSp sp_law_drawn) := by
  refine fn_mem (t := t_law_drawn) F sc_law_drawn (fun a b c h => len_law_drawn h) (fun cdv A outer s H E hr => ?_) (fun a b c h => law_law_drawn h)
  exact qss_cons (qs_set (i := 3) sc_law_drawn.nd rfl (.inl rfl) (q_callTy c_tuple (by rfl) T.tuple_ bi_tuple (qa_cons (q_lc (own := [("_law_name", 7)]) finL_ok rfl sc_law_drawn.nd (qi_range (by rfl) T.range_ (q_ix i_seq (q_var 1) (q_int))) (blkOk_by (show blkC ["_law_tape", "_law_grammar", "_law_tree_here", "_law_z", "_law_low", "_law_h", "_law_node", "_law_name"] (defScope s_law_drawn) _ [("_law_name", 7)] = true from by decide +kernel)) (fun _ _ _ _ _ => qg_name (i := 7) sc_law_drawn.nd rfl (.inl rfl)) (fun _ _ _ _ _ => qts_nil) (fun _ _ _ _ _ => q_tup (qa_cons (q_op o_sub (q_callM C_law_pick.ok hr (by rfl) C_law_pick.mg C_law_pick.kp C_law_pick.b pass0 (qa_cons (q_var 0) (qa_cons (q_int) (qa_nil)))) (q_int)) (qa_cons (q_op o_sub (q_callM C_law_pick.ok hr (by rfl) C_law_pick.mg C_law_pick.kp C_law_pick.b pass0 (qa_cons (q_var 0) (qa_cons (q_int) (qa_nil)))) (q_int)) (qa_nil))))) (qa_nil))))
    (qss_cons (qs_set (i := 4) sc_law_drawn.nd rfl (.inr rfl) (q_callM C_law_pick.ok hr (by rfl) C_law_pick.mg C_law_pick.kp C_law_pick.b pass0 (qa_cons (q_var 0) (qa_cons (q_int) (qa_nil)))))
    (qss_cons (qs_set (i := 5) sc_law_drawn.nd rfl (.inl rfl) (q_lstM (qa_nil)))
    (qss_cons (qs_for (vs := [6]) PassesOwn.never rfl (qi_range (by rfl) T.range_ (q_callB c_len (by rfl) T.len_ bi_len (qa_cons (q_var 2) (qa_nil)))) (qg_name (i := 6) sc_law_drawn.nd rfl (.inl rfl)) (qss_one (qs_expr (q_meth PySem.F.slot_list_append PySem.F.type_list_append m_append (q_var 5) (qa_cons (q_callTy c_tuple (by rfl) T.tuple_ bi_tuple (qa_cons (q_lc (own := [("_law_name", 7)]) finL_ok rfl sc_law_drawn.nd (qi_range (by rfl) T.range_ (q_ix i_seq (q_var 1) (q_int))) (blkOk_by (show blkC ["_law_tape", "_law_grammar", "_law_tree_here", "_law_z", "_law_low", "_law_h", "_law_node", "_law_name"] (defScope s_law_drawn) _ [("_law_name", 7)] = true from by decide +kernel)) (fun _ _ _ _ _ => qg_name (i := 7) sc_law_drawn.nd rfl (.inl rfl)) (fun _ _ _ _ _ => qts_nil) (fun _ _ _ _ _ => q_tup (qa_cons (q_op o_sub (q_callM C_law_pick.ok hr (by rfl) C_law_pick.mg C_law_pick.kp C_law_pick.b pass0 (qa_cons (q_var 0) (qa_cons (q_int) (qa_nil)))) (q_var 4)) (qa_cons (q_op o_sub (q_callM C_law_pick.ok hr (by rfl) C_law_pick.mg C_law_pick.kp C_law_pick.b pass0 (qa_cons (q_var 0) (qa_cons (q_int) (qa_nil)))) (q_int)) (qa_nil))))) (qa_nil))) (qa_nil))))))
    (qss_one (qs_ret (q_tup (qa_cons (q_var 3) (qa_cons (q_callTy c_tuple (by rfl) T.tuple_ bi_tuple (qa_cons (q_var 5) (qa_nil))) (qa_nil)))))))))
end


-- N = [(0, '_law_tape'), (1, '_law_sheet'), (2, '_law_z'), (3, '_law_h'), (4, '_law_kind'), (5, '_law_odd'), (6, '_law_at')]

abbrev s_law_no_sheet : Stmt := topS 56

theorem sc_law_no_sheet : FnScope ["_law_tape", "_law_sheet", "_law_z", "_law_h", "_law_kind", "_law_odd", "_law_at"] ["_law_tape", "_law_sheet"] (defScope s_law_no_sheet) := ⟨rfl, rfl, rfl, by decide +kernel, rfl, by decide +kernel, by decide +kernel⟩

section
variable {P : Program} {w : World} {K : PySem.W.Frag} {mg : Str → Option Value} {base : Heap}
theorem ok_law_no_sheet {f : Addr} {fd : FuncData} (F : Fun K "_law_no_sheet" "_law_no_sheet" s_law_no_sheet f fd) (T : Txt K mg) {f_law_pick : Addr} {fd_law_pick : FuncData} (C_law_pick : Cal P w K mg base CX0 1 "_law_pick" ["_law_tape", "_law_many"] (memSp sp_law_pick) f_law_pick fd_law_pick) : FnOk P w K mg base CX0 2 f fd ["_law_tape", "_law_sheet"] (memSp sp_law_no_sheet) := by
  refine fn_mem (t := t_law_no_sheet) F sc_law_no_sheet (fun a b c h => len_law_no_sheet h) (fun cdv A outer s H E hr => ?_) (fun a b c h => law_law_no_sheet h)
  exact qss_cons (qs_asg (vs := [2, 3]) (q_var 1) (qg_tup rfl (qgs_cons (qg_name (i := 2) sc_law_no_sheet.nd rfl (.inl rfl)) (qgs_cons (qg_name (i := 3) sc_law_no_sheet.nd rfl (.inl rfl)) (qgs_nil)))))
    (qss_cons (qs_set (i := 4) sc_law_no_sheet.nd rfl (.inl rfl) (q_callM C_law_pick.ok hr (by rfl) C_law_pick.mg C_law_pick.kp C_law_pick.b pass0 (qa_cons (q_var 0) (qa_cons (q_int) (qa_nil)))))
    (qss_cons (qs_if (qt_cmp (o_lt hr.units) (q_var 4) (q_int) (nomark _)) (qss_one (qs_ret (q_ix i_seq (q_lst (qa_cons (q_non) (qa_cons (q_tup (qa_nil)) (qa_cons (q_tup (qa_cons (q_var 2) (qa_nil))) (qa_cons (q_lst (qa_cons (q_var 2) (qa_cons (q_var 3) (qa_nil)))) (qa_cons (q_tup (qa_cons (q_callTy c_list (by rfl) T.list_ bi_list (qa_cons (q_var 2) (qa_nil))) (qa_cons (q_var 3) (qa_nil)))) (qa_cons (q_tup (qa_cons (q_var 2) (qa_cons (q_var 3) (qa_cons (q_tup (qa_nil)) (qa_nil))))) (qa_nil)))))))) (q_var 4)))) (qss_nil))
    (qss_cons (qs_if (qt_cmp (o_lt hr.units) (q_var 4) (q_int) (nomark _)) (qss_one (qs_ret (q_ix i_seq (q_lst (qa_cons (q_tup (qa_cons (q_var 2) (qa_cons (q_callTy c_list (by rfl) T.list_ bi_list (qa_cons (q_var 3) (qa_nil))) (qa_nil)))) (qa_cons (q_tup (qa_cons (q_var 2) (qa_cons (q_op o_add (q_var 3) (q_tup (qa_cons (q_var 2) (qa_nil)))) (qa_nil)))) (qa_cons (q_tup (qa_cons (q_op o_add (q_var 2) (q_tup (qa_cons (q_tup (qa_cons (q_int) (qa_cons (q_int) (qa_nil)))) (qa_nil)))) (qa_cons (q_var 3) (qa_nil)))) (qa_cons (q_tup (qa_cons (q_var 2) (qa_cons (q_op o_add (q_tup (qa_cons (q_callTy c_list (by rfl) T.list_ bi_list (qa_cons (q_ix i_seq (q_var 3) (q_int)) (qa_nil))) (qa_nil))) (q_slice (q_var 3) (qo_some (q_int)) (qo_none))) (qa_nil)))) (qa_nil)))))) (q_op o_sub (q_var 4) (q_int))))) (qss_nil))
    (qss_cons (qs_set (i := 5) sc_law_no_sheet.nd rfl (.inl rfl) (q_ix i_seq (q_lst (qa_cons (q_tup (qa_cons (q_tup (qa_cons (q_int) (qa_cons (q_bl) (qa_nil)))) (qa_nil))) (qa_cons (q_tup (qa_cons (q_tup (qa_cons (q_int) (qa_nil))) (qa_nil))) (qa_cons (q_tup (qa_cons (q_lst (qa_cons (q_int) (qa_cons (q_int) (qa_nil)))) (qa_nil))) (qa_nil))))) (q_op o_sub (q_var 4) (q_int))))
    (qss_cons (qs_set (i := 6) sc_law_no_sheet.nd rfl (.inl rfl) (q_callM C_law_pick.ok hr (by rfl) C_law_pick.mg C_law_pick.kp C_law_pick.b pass0 (qa_cons (q_var 0) (qa_cons (q_op o_add (q_callB c_len (by rfl) T.len_ bi_len (qa_cons (q_var 3) (qa_nil))) (q_int)) (qa_nil)))))
    (qss_cons (qs_if (qt_cmp (o_eq hr.units) (q_var 6) (q_callB c_len (by rfl) T.len_ bi_len (qa_cons (q_var 3) (qa_nil))) (nomark _)) (qss_one (qs_ret (q_tup (qa_cons (q_op o_add (q_slice (q_var 2) (qo_none) (qo_some (q_neg (q_int)))) (q_var 5)) (qa_cons (q_var 3) (qa_nil)))))) (qss_nil))
    (qss_one (qs_ret (q_tup (qa_cons (q_var 2) (qa_cons (q_op o_add (q_op o_add (q_slice (q_var 3) (qo_none) (qo_some (q_var 6))) (q_tup (qa_cons (q_op o_add (q_slice (q_ix i_seq (q_var 3) (q_var 6)) (qo_none) (qo_some (q_neg (q_int)))) (q_var 5)) (qa_nil)))) (q_slice (q_var 3) (qo_some (q_op o_add (q_var 6) (q_int))) (qo_none))) (qa_nil))))))))))))
end


-- N = [(0, '_law_script'), (1, '_law_salt'), (2, '_law_tape'), (3, '_law_tree_here'), (4, '_law_true_here'), (5, '_law_start'), (6, '_law_price'), (7, '_law_size'), (8, '_law_told'), (9, '_law_turn'), (10, '_law_bent_here'), (11, '_law_low'), (12, '_law_top'), (13, '_law_floors'), (14, '_law_bad'), (15, '_law_grammar'), (16, '_law_odd'), (17, '_law_cell')]


theorem sc_law : FnScope ["_law_script", "_law_salt", "_law_tape", "_law_tree_here", "_law_true_here", "_law_start", "_law_price", "_law_size", "_law_told", "_law_turn", "_law_bent_here", "_law_low", "_law_top", "_law_floors", "_law_bad", "_law_grammar", "_law_odd", "_law_cell"] ["_law_script"] (defScope s_law) := ⟨rfl, rfl, rfl, by decide +kernel, rfl, by decide +kernel, by decide +kernel⟩

section
variable {P : Program} {w : World} {K : PySem.W.Frag} {mg : Str → Option Value} {base : Heap}
theorem ok_law {c P0 C_NotUsable C_InvalidPaper : Addr} {f g : Addr} {fd fdg : FuncData} (F : Fun K "law" "law" s_law f fd) (hfd : fd.code = .ref c) (TB : LamX.TabB base mg c P0) (T : Txt K mg) (F_refused : Fun K "_law_refused" "_law_refused" s_law_refused g fdg) (m_refused : mg "_law_refused" = some (.ref g)) (b_refused : Binds K fdg ["_law_call", "_law_word"] [])
    {f_law_sameH : Addr} {fd_law_sameH : FuncData} (H_law_same : CalH P w K mg base 1 "_law_same" ["_law_told", "_law_due"] sp_law_same f_law_sameH fd_law_sameH) (hs1 : ∀ (w : Str) Qd Ed, Qd (.bool true) → sp_law_same [.str w, .str w] Qd Ed) (hs2 : ∀ Qd Ed, Qd (.bool true) → sp_law_same [.int (-1), .int (-1)] Qd Ed)
    {fI_NotUsable : Addr} {fd_NotUsable : FuncData} (T_NotUsable : Rai P w K mg base "NotUsable" C_NotUsable fI_NotUsable fd_NotUsable) {f_law_trim : Addr} {fd_law_trim : FuncData} (C_law_trim : Cal P w K mg base CX0 1 "_law_trim" ["_law_grammar"] (pureSp sp_law_trim) f_law_trim fd_law_trim) {f_law_free : Addr} {fd_law_free : FuncData} (C_law_free : Cal P w K mg base CX0 2 "_law_free" ["_law_tape"] (memSp sp_law_free) f_law_free fd_law_free) {f_law_tree : Addr} {fd_law_tree : FuncData} (C_law_tree : Cal P w K mg base CX0 2 "_law_tree" ["_law_tape", "_law_grammar"] (memSp sp_law_tree) f_law_tree fd_law_tree) {f_law_true : Addr} {fd_law_true : FuncData} (C_law_true : Cal P w K mg base CX0 3 "_law_true" ["_law_grammar", "_law_tree_here"] (pureSp sp_law_true) f_law_true fd_law_true) {f_floors_of : Addr} {fd_floors_of : FuncData} (C_floors_of : Cal P w K mg base (L2N.CX P w) 6 "floors_of" ["driven", "tree"] (pureSp (sp_floors_of C_NotUsable)) f_floors_of fd_floors_of) {f_law_same : Addr} {fd_law_same : FuncData} (C_law_same : Cal P w K mg base CX0 1 "_law_same" ["_law_told", "_law_due"] (pureSp sp_law_same) f_law_same fd_law_same) {f_law_judged : Addr} {fd_law_judged : FuncData} (C_law_judged : Cal P w K mg base CX0 3 "_law_judged" ["_law_grammar", "_law_tree_here", "_law_thing"] (pureSp sp_law_judged) f_law_judged fd_law_judged) {f_lets_floors : Addr} {fd_lets_floors : FuncData} (C_lets_floors : Cal P w K mg base (L2N.CX P w) 6 "lets_floors" ["driven", "tree", "thing"] (pureSp (sp_lets_floors C_NotUsable C_InvalidPaper)) f_lets_floors fd_lets_floors) {f_law_right : Addr} {fd_law_right : FuncData} (C_law_right : Cal P w K mg base CX0 7 "_law_right" ["_law_grammar", "_law_tree_here", "_law_thing"] (pureSp sp_law_right) f_law_right fd_law_right) {f_law_bent : Addr} {fd_law_bent : FuncData} (C_law_bent : Cal P w K mg base CX0 2 "_law_bent" ["_law_tape", "_law_grammar", "_law_sheet"] (memSp sp_law_bent) f_law_bent fd_law_bent) {f_law_pick : Addr} {fd_law_pick : FuncData} (C_law_pick : Cal P w K mg base CX0 1 "_law_pick" ["_law_tape", "_law_many"] (memSp sp_law_pick) f_law_pick fd_law_pick) {f_law_drawn : Addr} {fd_law_drawn : FuncData} (C_law_drawn : Cal P w K mg base CX0 2 "_law_drawn" ["_law_tape", "_law_grammar", "_law_tree_here"] (memSp sp_law_drawn) f_law_drawn fd_law_drawn) {f_law_no_sheet : Addr} {fd_law_no_sheet : FuncData} (C_law_no_sheet : Cal P w K mg base CX0 2 "_law_no_sheet" ["_law_tape", "_law_sheet"] (memSp sp_law_no_sheet) f_law_no_sheet fd_law_no_sheet) {f_law_sameH : Addr} {fd_law_sameH : FuncData} (H_law_same : CalH P w K mg base 1 "_law_same" ["_law_told", "_law_due"] sp_law_same f_law_sameH fd_law_sameH) (R_floors_of : RevB K fd_floors_of ["driven", "tree"]) (R_lets_floors : RevB K fd_lets_floors ["driven", "tree", "thing"]) : FnOk P w K mg base CX0 9 f fd ["_law_script"] (memSp (sp_law P0)) := by
  refine fn_memC (t := t_law P0 C_NotUsable C_InvalidPaper) F sc_law (fun a b c h => len_law h) (fun cdv A outer s H E hcode0 hr => ?_) (fun a b c h => law_law h)
  have hcode : cdv = .ref c := hcode0.symm.trans hfd
  exact qss_cons (qs_set (i := 1) sc_law.nd rfl (.inl rfl) (q_callB (c_sum rfl) (by rfl) T.sum_ bi_sum (qa_cons (q_lc (own := [("_law_cell", 17)]) finL_ok rfl sc_law.nd (qi_seq (q_slice (q_var 0) (qo_some (q_neg (q_int))) (qo_none))) (blkOk_by (show blkC ["_law_script", "_law_salt", "_law_tape", "_law_tree_here", "_law_true_here", "_law_start", "_law_price", "_law_size", "_law_told", "_law_turn", "_law_bent_here", "_law_low", "_law_top", "_law_floors", "_law_bad", "_law_grammar", "_law_odd", "_law_cell"] (defScope s_law) _ [("_law_cell", 17)] = true from by decide +kernel)) (fun _ _ _ _ _ => qg_name (i := 17) sc_law.nd rfl (.inl rfl)) (fun _ _ _ _ _ => qts_nil) (fun _ _ _ _ _ => q_callTy c_int (by rfl) T.int_ bi_int (qa_cons (q_var 17) (qa_nil)))) (qa_nil))))
    (qss_cons (qs_set (i := 2) sc_law.nd rfl (.inl rfl) (q_lstM (qa_cons (q_lc (own := [("_law_cell", 17)]) finM_ok rfl sc_law.nd (qi_seq (q_slice (q_var 0) (qo_none) (qo_some (q_neg (q_int))))) (blkOk_by (show blkC ["_law_script", "_law_salt", "_law_tape", "_law_tree_here", "_law_true_here", "_law_start", "_law_price", "_law_size", "_law_told", "_law_turn", "_law_bent_here", "_law_low", "_law_top", "_law_floors", "_law_bad", "_law_grammar", "_law_odd", "_law_cell"] (defScope s_law) _ [("_law_cell", 17)] = true from by decide +kernel)) (fun _ _ _ _ _ => qg_name (i := 17) sc_law.nd rfl (.inl rfl)) (fun _ _ _ _ _ => qts_nil) (fun _ _ _ _ _ => q_callTy c_int (by rfl) T.int_ bi_int (qa_cons (q_var 17) (qa_nil)))) (qa_cons (q_int) (qa_cons (q_var 1) (qa_nil))))))
    (qss_cons (qs_if (qt_cmp (o_lt hr.units) (q_callB c_len (by rfl) T.len_ bi_len (qa_cons (q_var 0) (qa_nil))) (q_int) (nomark _)) (qss_one (qs_expr (q_meth PySem.F.slot_list_append PySem.F.type_list_append m_append (q_ix i_seq (q_var 2) (q_int)) (qa_cons (q_op o_add (q_int) (q_var 1)) (qa_nil))))) (qss_nil))
    (qss_cons (qs_set (i := 15) sc_law.nd rfl (.inr rfl) (q_callP C_law_trim.ok (hr.mono (by decide)) (by rfl) C_law_trim.mg C_law_trim.kp C_law_trim.b pass0 (qa_cons (q_callM C_law_free.ok (hr.mono (by decide)) (by rfl) C_law_free.mg C_law_free.kp C_law_free.b pass0 (qa_cons (q_var 2) (qa_nil))) (qa_nil))))
    (qss_cons (qs_set (i := 3) sc_law.nd rfl (.inl rfl) (q_callM C_law_tree.ok (hr.mono (by decide)) (by rfl) C_law_tree.mg C_law_tree.kp C_law_tree.b pass0 (qa_cons (q_var 2) (qa_cons (q_var 15) (qa_nil)))))
    (qss_cons (qs_set (i := 4) sc_law.nd rfl (.inr rfl) (q_callP C_law_true.ok (hr.mono (by decide)) (by rfl) C_law_true.mg C_law_true.kp C_law_true.b pass0 (qa_cons (q_var 15) (qa_cons (q_var 3) (qa_nil)))))
    (qss_cons (qs_asg (vs := [6, 7]) (q_callB (c_min rfl hr.units) (by rfl) T.min_ bi_min (qa_cons (q_lc (own := [("_law_start", 5)]) finL_ok rfl sc_law.nd (qi_seq (q_ix i_seq (q_var 15) (q_int))) (blkOk_by (show blkC ["_law_script", "_law_salt", "_law_tape", "_law_tree_here", "_law_true_here", "_law_start", "_law_price", "_law_size", "_law_told", "_law_turn", "_law_bent_here", "_law_low", "_law_top", "_law_floors", "_law_bad", "_law_grammar", "_law_odd", "_law_cell"] (defScope s_law) _ [("_law_start", 5)] = true from by decide +kernel)) (fun _ _ _ _ _ => qg_name (i := 5) sc_law.nd rfl (.inl rfl)) (fun _ _ _ _ _ => qts_nil) (fun _ _ _ _ _ => q_ix i_seq (q_ix i_seq (q_ix i_seq (q_var 4) (q_int)) (q_int)) (q_var 5))) (qa_nil))) (qg_tup rfl (qgs_cons (qg_name (i := 6) sc_law.nd rfl (.inl rfl)) (qgs_cons (qg_name (i := 7) sc_law.nd rfl (.inl rfl)) (qgs_nil)))))
    (qss_cons (qs_set (i := 8) sc_law.nd rfl (.inl rfl) (q_callP C_floors_of.ok (hr.mono (by decide)) (by rfl) C_floors_of.mg C_floors_of.kp C_floors_of.b passN (qa_cons (q_var 15) (qa_cons (q_var 3) (qa_nil)))))
    (qss_cons (qs_if (qt_not (qt_val (q_callP C_law_same.ok (hr.mono (by decide)) (by rfl) C_law_same.mg C_law_same.kp C_law_same.b pass0 (qa_cons (q_callP C_law_judged.ok (hr.mono (by decide)) (by rfl) C_law_judged.mg C_law_judged.kp C_law_judged.b pass0 (qa_cons (q_var 15) (qa_cons (q_var 3) (qa_cons (q_var 8) (qa_nil))))) (qa_cons (q_tup (qa_cons (q_str) (qa_cons (q_tup (qa_cons (q_var 6) (qa_cons (q_var 7) (qa_nil)))) (qa_nil)))) (qa_nil)))))) (qss_one (qs_ret (q_bl))) (qss_nil))
    (qss_cons (qs_if (PW.pt (qw_or (qt_not (qt_val (q_callP C_law_same.ok (hr.mono (by decide)) (by rfl) C_law_same.mg C_law_same.kp C_law_same.b pass0 (qa_cons (q_callP C_lets_floors.ok (hr.mono (by decide)) (by rfl) C_lets_floors.mg C_lets_floors.kp C_lets_floors.b passN (qa_cons (q_var 15) (qa_cons (q_var 3) (qa_cons (q_var 8) (qa_nil))))) (qa_cons (q_tup (qa_cons (q_var 6) (qa_cons (q_var 7) (qa_nil)))) (qa_nil)))))) (qw_or1 (qt_not (qt_val (q_callP C_law_same.ok (hr.mono (by decide)) (by rfl) C_law_same.mg C_law_same.kp C_law_same.b pass0 (qa_cons (q_callKw C_floors_of.ok (hr.mono (by decide)) (by rfl) C_floors_of.mg C_floors_of.kp R_floors_of passN (qk_cons (q_var 3) (qk_cons (q_var 15) (qk_nil)))) (qa_cons (q_var 8) (qa_nil))))))))) (qss_one (qs_ret (q_bl))) (qss_nil))
    (qss_cons (qs_if (PW.pt (qw_or (qt_not (qt_val (q_callP C_law_right.ok (hr.mono (by decide)) (by rfl) C_law_right.mg C_law_right.kp C_law_right.b pass0 (qa_cons (q_var 15) (qa_cons (q_var 3) (qa_cons (q_var 4) (qa_nil))))))) (qw_or1 (qt_not (qt_val (q_callP C_law_same.ok (hr.mono (by decide)) (by rfl) C_law_same.mg C_law_same.kp C_law_same.b pass0 (qa_cons (q_callKw C_lets_floors.ok (hr.mono (by decide)) (by rfl) C_lets_floors.mg C_lets_floors.kp R_lets_floors passN (qk_cons (q_var 4) (qk_cons (q_var 3) (qk_cons (q_var 15) (qk_nil))))) (qa_cons (q_tup (qa_cons (q_var 6) (qa_cons (q_var 7) (qa_nil)))) (qa_nil))))))))) (qss_one (qs_ret (q_bl))) (qss_nil))
    (qss_cons (qs_for (vs := [9]) PassesOwn.never rfl (qi_range (by rfl) T.range_ (q_int)) (qg_name (i := 9) sc_law.nd rfl (.inl rfl)) (qss_cons (qs_set (i := 10) sc_law.nd rfl (.inl rfl) (q_callM C_law_bent.ok (hr.mono (by decide)) (by rfl) C_law_bent.mg C_law_bent.kp C_law_bent.b pass0 (qa_cons (q_var 2) (qa_cons (q_var 15) (qa_cons (q_ix i_seq (q_lst (qa_cons (q_var 4) (qa_cons (q_var 8) (qa_nil)))) (q_op o_mod (q_var 9) (q_int))) (qa_nil))))))
    (qss_cons (qs_if (qt_cmp (o_eq hr.units) (q_var 9) (q_int) (nomark _)) (qss_one (qs_set (i := 10) sc_law.nd rfl (.inl rfl) (q_callM C_law_bent.ok (hr.mono (by decide)) (by rfl) C_law_bent.mg C_law_bent.kp C_law_bent.b pass0 (qa_cons (q_var 2) (qa_cons (q_var 15) (qa_cons (q_var 10) (qa_nil))))))) (qss_nil))
    (qss_one (qs_if (qt_not (qt_val (q_callP C_law_right.ok (hr.mono (by decide)) (by rfl) C_law_right.mg C_law_right.kp C_law_right.b pass0 (qa_cons (q_var 15) (qa_cons (q_var 3) (qa_cons (q_var 10) (qa_nil))))))) (qss_one (qs_ret (q_bl))) (qss_nil))))))
    (qss_cons (qs_set (i := 11) sc_law.nd rfl (.inl rfl) (q_ix i_seq (q_lst (qa_cons (q_tup (qa_cons (q_var 6) (qa_cons (q_var 7) (qa_nil)))) (qa_cons (q_tup (qa_cons (q_var 6) (qa_cons (q_op o_sub (q_var 7) (q_int)) (qa_nil)))) (qa_cons (q_tup (qa_cons (q_op o_sub (q_var 6) (q_int)) (qa_cons (q_op o_add (q_var 7) (q_op o_pow (q_int) (q_int))) (qa_nil)))) (qa_cons (q_tup (qa_cons (q_neg (q_int)) (qa_cons (q_callM C_law_pick.ok (hr.mono (by decide)) (by rfl) C_law_pick.mg C_law_pick.kp C_law_pick.b pass0 (qa_cons (q_var 2) (qa_cons (q_int) (qa_nil)))) (qa_nil)))) (qa_cons (q_tup (qa_cons (q_int) (qa_cons (q_neg (q_int)) (qa_nil)))) (qa_nil))))))) (q_callM C_law_pick.ok (hr.mono (by decide)) (by rfl) C_law_pick.mg C_law_pick.kp C_law_pick.b pass0 (qa_cons (q_var 2) (qa_cons (q_int) (qa_nil))))))
    (qss_cons (qs_set (i := 11) sc_law.nd rfl (.inl rfl) (q_callB (c_min2 rfl hr.units) (by rfl) T.min_ bi_min (qa_cons (q_var 11) (qa_cons (q_tup (qa_cons (q_var 6) (qa_cons (q_var 7) (qa_nil)))) (qa_nil)))))
    (qss_cons (qs_set (i := 12) sc_law.nd rfl (.inl rfl) (q_callTy c_listM (by rfl) T.list_ bi_list (qa_cons (q_ix i_seq (q_ix i_seq (q_var 4) (q_int)) (q_int)) (qa_nil))))
    (qss_cons (qs_for (vs := [5]) PassesOwn.never rfl (qi_seq (q_ix i_seq (q_var 15) (q_int))) (qg_name (i := 5) sc_law.nd rfl (.inl rfl)) (qss_one (qs_asg (vs := []) (q_callB (c_min2 rfl hr.units) (by rfl) T.min_ bi_min (qa_cons (q_var 11) (qa_cons (q_ix i_seq (q_var 12) (q_var 5)) (qa_nil)))) (qg_sub (q_var 12) (q_var 5) (p_setL)))))
    (qss_cons (qs_set (i := 13) sc_law.nd rfl (.inl rfl) (q_tup (qa_cons (q_ix i_seq (q_var 4) (q_int)) (qa_cons (q_op o_add (q_tup (qa_cons (q_callTy c_tuple (by rfl) T.tuple_ bi_tuple (qa_cons (q_var 12) (qa_nil))) (qa_nil))) (q_slice (q_ix i_seq (q_var 4) (q_int)) (qo_some (q_int)) (qo_none))) (qa_nil)))))
    (qss_cons (qs_if (PW.pt (qw_or (qt_not (qt_val (q_callP C_law_same.ok (hr.mono (by decide)) (by rfl) C_law_same.mg C_law_same.kp C_law_same.b pass0 (qa_cons (q_callP C_law_judged.ok (hr.mono (by decide)) (by rfl) C_law_judged.mg C_law_judged.kp C_law_judged.b pass0 (qa_cons (q_var 15) (qa_cons (q_var 3) (qa_cons (q_var 13) (qa_nil))))) (qa_cons (q_tup (qa_cons (q_str) (qa_cons (q_var 11) (qa_nil)))) (qa_nil)))))) (qw_or1 (qt_not (qt_val (q_callP C_law_right.ok (hr.mono (by decide)) (by rfl) C_law_right.mg C_law_right.kp C_law_right.b pass0 (qa_cons (q_var 15) (qa_cons (q_var 3) (qa_cons (q_var 13) (qa_nil)))))))))) (qss_one (qs_ret (q_bl))) (qss_nil))
    (qss_cons (qs_if (qt_not (qt_val (q_callP C_law_right.ok (hr.mono (by decide)) (by rfl) C_law_right.mg C_law_right.kp C_law_right.b pass0 (qa_cons (q_var 15) (qa_cons (q_var 3) (qa_cons (q_callM C_law_drawn.ok (hr.mono (by decide)) (by rfl) C_law_drawn.mg C_law_drawn.kp C_law_drawn.b pass0 (qa_cons (q_var 2) (qa_cons (q_var 15) (qa_cons (q_var 3) (qa_nil))))) (qa_nil))))))) (qss_one (qs_ret (q_bl))) (qss_nil))
    (qss_cons (qs_set (i := 16) sc_law.nd rfl (.inr rfl) (q_callM C_law_no_sheet.ok (hr.mono (by decide)) (by rfl) C_law_no_sheet.mg C_law_no_sheet.kp C_law_no_sheet.b pass0 (qa_cons (q_var 2) (qa_cons (q_var 4) (qa_nil)))))
    (qss_cons (qs_if (PW.pt (qw_or (qt_not (qt_val (q_callP C_law_same.ok (hr.mono (by decide)) (by rfl) C_law_same.mg C_law_same.kp C_law_same.b pass0 (qa_cons (q_callP C_law_judged.ok (hr.mono (by decide)) (by rfl) C_law_judged.mg C_law_judged.kp C_law_judged.b pass0 (qa_cons (q_var 15) (qa_cons (q_var 3) (qa_cons (q_var 16) (qa_nil))))) (qa_cons (q_tup (qa_cons (q_str) (qa_cons (q_neg (q_int)) (qa_nil)))) (qa_nil)))))) (qw_or1 (qt_not (qt_val (q_callP C_law_right.ok (hr.mono (by decide)) (by rfl) C_law_right.mg C_law_right.kp C_law_right.b pass0 (qa_cons (q_var 15) (qa_cons (q_var 3) (qa_cons (q_var 16) (qa_nil)))))))))) (qss_one (qs_ret (q_bl))) (qss_nil))
    (qss_cons (qs_set (i := 14) sc_law.nd rfl (.inr rfl) (q_ix i_seq (q_lst (qa_cons (q_non) (qa_cons (q_tup (qa_nil)) (qa_cons (q_int) (qa_cons (q_callTy c_list (by rfl) T.list_ bi_list (qa_cons (q_var 3) (qa_nil))) (qa_cons (q_op o_add (q_var 3) (q_var 3)) (qa_cons (q_op o_add (q_var 3) (q_tup (qa_cons (q_tup (qa_cons (q_str) (qa_cons (q_int) (qa_nil)))) (qa_nil)))) (qa_cons (q_tup (qa_cons (q_tup (qa_cons (q_str) (qa_cons (q_int) (qa_nil)))) (qa_nil))) (qa_cons (q_tup (qa_cons (q_tup (qa_cons (q_str) (qa_cons (q_int) (qa_nil)))) (qa_nil))) (qa_cons (q_tup (qa_cons (q_tup (qa_cons (q_str) (qa_cons (q_bl) (qa_nil)))) (qa_nil))) (qa_cons (q_tup (qa_cons (q_lst (qa_cons (q_str) (qa_cons (q_int) (qa_nil)))) (qa_nil))) (qa_cons (q_str) (qa_nil))))))))))))) (q_callM C_law_pick.ok (hr.mono (by decide)) (by rfl) C_law_pick.mg C_law_pick.kp C_law_pick.b pass0 (qa_cons (q_var 2) (qa_cons (q_int) (qa_nil))))))
    (qss_cons (qs_if (qt_not (qt_val (q_refused TB hcode F_refused m_refused b_refused H_law_same hs1 hs2 T_NotUsable.err T_NotUsable.gC hr (by rfl) (LamX.lamS_by (show LamX.lamSB (defScope s_law) _ = true from by decide +kernel)) rfl (fun _ _ _ _ _ => rfl) (fun A outer s H E f c2 hr2 => PE_imp (pe_call C_lets_floors.ok hr2 (by rfl) C_lets_floors.mg C_lets_floors.kp C_lets_floors.b .nil (L2N.passes_call (L2N.takes_of rfl rfl rfl rfl) fun _ _ _ _ h => h) (qa_cons (q_var 15) (qa_cons (q_var 14) (qa_cons (q_var 16) (qa_nil))))) fun _ _ _ => LX_call)))) (qss_one (qs_ret (q_bl))) (qss_nil))
    (qss_one (qs_ret (q_refused TB hcode F_refused m_refused b_refused H_law_same hs1 hs2 T_NotUsable.err T_NotUsable.gC hr (by rfl) (LamX.lamS_by (show LamX.lamSB (defScope s_law) _ = true from by decide +kernel)) rfl (fun _ _ _ _ _ => rfl) (fun A outer s H E f c2 hr2 => PE_imp (pe_kw0 C_floors_of.ok hr2 (by rfl) C_floors_of.mg C_floors_of.kp R_floors_of (L2N.passes_call (L2N.takes_of rfl rfl rfl rfl) fun _ _ _ _ h => h) (qk_cons (q_var 14) (qk_cons (q_var 15) (qk_nil)))) fun _ _ _ => LX_kw))))))))))))))))))))))))))
end

-- N = [(0, '_law_told'), (1, '_law_due'), (2, '_law_todo'), (3, '_law_one'), (4, '_law_two')]
section
variable {P : Program} {w : World} {K : PySem.W.Frag} {mg : Str → Option Value} {base : Heap}
theorem okH_law_same {f : Addr} {fd : FuncData} (F : Fun K "_law_same" "_law_same" s_law_same f fd) (T : Txt K mg) : L2H.FnH P w K mg base CX0 1 f fd ["_law_told", "_law_due"] (pureSp sp_law_same) := by
  refine fn_pureH F sc_law_same (fun a b c h => len_law_same h) (fun cdv A outer s H E p hh hr => ?_) (fun a b c h => law_law_same h)
  have hot := hot_cx (P := P) (w := w) (K := K) (mg := mg) (base := base) (f := f) (N := ["_law_told", "_law_due", "_law_todo", "_law_one", "_law_two"]) (qual := "_law_same") (scope := defScope s_law_same) (cd := cdv) (A := A) (outer := outer) (s := s) (H := H) (E := E) hh
  exact qss_cons (qs_set (i := 2) sc_law_same.nd rfl (.inl rfl) (q_lstM (qa_cons (q_tup (qa_cons (q_var 0) (qa_cons (q_var 1) (qa_nil)))) (qa_nil))))
    (qss_cons (qs_while PassesOwn.never (qt_cmp (o_gt (roomH_units hr)) (q_callB c_len (by rfl) T.len_ bi_len (qa_cons (q_var 2) (qa_nil))) (q_int) (nomark _)) (qss_cons (qs_asg (vs := [3, 4]) (q_meth0 PySem.F.slot_list_pop PySem.F.type_list_pop m_pop (q_var 2)) (qg_tupH hot (qgs_cons (qg_name (i := 3) sc_law_same.nd rfl (.inl rfl)) (qgs_cons (qg_name (i := 4) sc_law_same.nd rfl (.inl rfl)) (qgs_nil)))))
    (qss_one (qs_if (qt_val (q_isi okTy_tuple (by rfl) T.isinstance_ bi_isinstance (by rfl) T.tuple_ bi_tuple (q_var 4))) (qss_cons (qs_if (PW.pt (qw_or (qt_not (qt_val (q_isi okTy_tuple (by rfl) T.isinstance_ bi_isinstance (by rfl) T.tuple_ bi_tuple (q_var 3)))) (qw_or1 (qt_cmp (o_ne (roomH_units hr)) (q_callB c_len (by rfl) T.len_ bi_len (qa_cons (q_var 3) (qa_nil))) (q_callB c_len (by rfl) T.len_ bi_len (qa_cons (q_var 4) (qa_nil))) (nomark _))))) (qss_one (qs_ret (q_bl))) (qss_nil))
    (qss_one (qs_expr (q_meth PySem.F.slot_list_extend PySem.F.type_list_extend m_extend (q_var 2) (qa_cons (q_listZip (air_hot hot) (by rfl) T.list_ (by rfl) T.zip_ (q_var 3) (q_var 4)) (qa_nil)))))) (qss_one (qs_if (qt_val (q_isi okTy_str (by rfl) T.isinstance_ bi_isinstance (by rfl) T.str_ bi_str (q_var 4))) (qss_one (qs_if (PW.pt (qw_or (qt_not (qt_val (q_isi okTy_str (by rfl) T.isinstance_ bi_isinstance (by rfl) T.str_ bi_str (q_var 3)))) (qw_or1 (qt_cmp (o_ne (roomH_units hr)) (q_var 3) (q_var 4) (nomark _))))) (qss_one (qs_ret (q_bl))) (qss_nil))) (qss_one (qs_if (PW.pt (qw_or (qt_cmp o_is (q_var 4) (q_non) (nomark _)) (qw_or (qt_cmp o_is (q_var 4) (q_bl) (nomark _)) (qw_or1 (qt_cmp o_is (q_var 4) (q_bl) (nomark _)))))) (qss_one (qs_if (qt_not (PW.pt (qw_or (PW.pt (qw_and (qt_cmp o_is (q_var 3) (q_non) (nomark _)) (qw_and1 (qt_cmp o_is (q_var 4) (q_non) (nomark _))))) (qw_or (PW.pt (qw_and (qt_cmp o_is (q_var 3) (q_bl) (nomark _)) (qw_and1 (qt_cmp o_is (q_var 4) (q_bl) (nomark _))))) (qw_or1 (PW.pt (qw_and (qt_cmp o_is (q_var 3) (q_bl) (nomark _)) (qw_and1 (qt_cmp o_is (q_var 4) (q_bl) (nomark _)))))))))) (qss_one (qs_ret (q_bl))) (qss_nil))) (qss_one (qs_if (PW.pt (qw_or (qt_val (q_isi okTy_bool (by rfl) T.isinstance_ bi_isinstance (by rfl) T.bool_ bi_bool (q_var 3))) (qw_or (qt_not (qt_val (q_isi okTy_int (by rfl) T.isinstance_ bi_isinstance (by rfl) T.int_ bi_int (q_var 3)))) (qw_or1 (qt_cmp (o_ne (roomH_units hr)) (q_var 3) (q_var 4) (nomark _)))))) (qss_one (qs_ret (q_bl))) (qss_nil)))))))))))
    (qss_one (qs_ret (q_bl))))

end

end DL
set_option Elab.async false
set_option linter.all false
set_option maxRecDepth 100000
set_option maxHeartbeats 0
/-! HD: the top's facts, the defs joined. -/
namespace DL
open PySem PySem.Spec PyProof.Rows L2
theorem fun_of {K : PySem.W.Frag} {x qual : Str} {st : Stmt} {f : Addr} {fd : FuncData} (F : FunD K x qual (defArgs st) (defBody st) (defScope st) [] [] f fd) : Fun K x qual st f fd := by
  obtain ⟨oc, od, dV, kV, doc, pm, an, cdv, ct, osl, rfl, lk, hcd, hD, hK⟩ := F.ex
  rcases hD with ⟨_, rfl⟩ | ⟨e, _⟩
  · exact ⟨⟨oc, od, kV, doc, pm, an, cdv, ct, osl, rfl, lk, hcd⟩, F.kp⟩
  · exact absurd rfl e
/-- an exception class of the package, as a test -/
def oexB (K : PySem.W.Frag) (C : Addr) : Bool := match K.lookup C with
  | some ⟨.type "type", _, .cls cd, sl⟩ => (match cd.mro, sl.toList with
    | .ref C' :: bm, [_, _, _, _, some (.builtin n), _] => C' == C && n == "ValueError.__new__" && !cd.hasDel && cd.hasDict && PySem.HandSPX.refsVE bm
    | _, _ => false)
  | _ => false
theorem oexB_ok {K : PySem.W.Frag} {C : Addr} (h : oexB K C = true) : ∃ nm q N bs bm sn sub ab col dd k0 k1 k2 k3 k5, K.lookup C = some (excClassObj nm q C N bs bm true sn sub ab col dd k0 k1 k2 k3 k5 "ValueError.__new__") ∧ PySem.HandSPX.refsVE bm = true := by
  unfold oexB at h
  split at h
  · rename_i dd cd sl ho
    split at h
    · rename_i C' bm k0 k1 k2 k3 n k5 hm hs
      simp only [Bool.and_eq_true, beq_iff_eq, Bool.not_eq_true'] at h
      obtain ⟨⟨⟨⟨rfl, rfl⟩, hdel⟩, hdct⟩, hr⟩ := h
      obtain ⟨nm, bs, mro, ns, qn, hd, sn, sub, ab, col, del⟩ := cd
      dsimp only at hm hdel hdct
      subst hm hdel hdct
      have hsl : sl = #[k0, k1, k2, k3, some (.builtin "ValueError.__new__"), k5] := by
        obtain ⟨l⟩ := sl
        simp only at hs
        rw [hs]
      subst hsl
      exact ⟨nm, qn, ns, bs, bm, sn, sub, ab, col, dd, k0, k1, k2, k3, k5, ho, hr⟩
    · cases h
  · cases h
/-- all that is asked of a class that is raised -/
def errB (K : PySem.W.Frag) (C : Addr) : Bool := oexB K C && (decide (PySem.W.findIn K (.ref C) "__setattr__" = some (some (.builtin "object.__setattr__"))) && (decide (PySem.W.subIn K (.ref C) (.type "BaseException") = some true) && (decide (PySem.W.typeIn K (.ref C) = some (.type "type")) && (PySem.W.keepIn K (.ref C) && (xfB K C &&
  (decide (PySem.W.findIn K (.ref C) "word" = some none) && (decide (PySem.W.findIn K (.ref C) "at" = some none) && (decide (PySem.W.exmOne K (.ref C) (.ref C) = some true) && (decide (PySem.W.findIn K (.ref C) "__init__" = some (some (.ref (He.ma K C "__init__")))) && decide (PySem.W.typeIn K (.ref (He.ma K C "__init__")) = some (.type "function")))))))))))
structure ErrOk (K : PySem.W.Frag) (C : Addr) : Prop where
  err : Err K C
  iC : PySem.W.findIn K (.ref C) "__init__" = some (some (.ref (He.ma K C "__init__")))
  tI : PySem.W.typeIn K (.ref (He.ma K C "__init__")) = some (.type "function")
theorem errB_ok {K : PySem.W.Frag} {C : Addr} (h : errB K C = true) : ErrOk K C := by
  obtain ⟨h1, h⟩ := Bool.and_eq_true_iff.mp h
  obtain ⟨h2, h⟩ := Bool.and_eq_true_iff.mp h
  obtain ⟨h3, h⟩ := Bool.and_eq_true_iff.mp h
  obtain ⟨h4, h⟩ := Bool.and_eq_true_iff.mp h
  obtain ⟨h5, h⟩ := Bool.and_eq_true_iff.mp h
  obtain ⟨h6, h⟩ := Bool.and_eq_true_iff.mp h
  obtain ⟨h7, h⟩ := Bool.and_eq_true_iff.mp h
  obtain ⟨h8, h⟩ := Bool.and_eq_true_iff.mp h
  obtain ⟨h9, h⟩ := Bool.and_eq_true_iff.mp h
  obtain ⟨h10, h11⟩ := Bool.and_eq_true_iff.mp h
  exact ⟨⟨⟨oexB_ok h1, of_decide_eq_true h2, of_decide_eq_true h3, of_decide_eq_true h4, h5⟩, xfB_ok h6, of_decide_eq_true h7, of_decide_eq_true h8, of_decide_eq_true h9⟩, of_decide_eq_true h10, of_decide_eq_true h11⟩
theorem rev_of {K : PySem.W.Frag} {x qual : Str} {params : Arguments} {body : List Stmt} {scope : Scope} {f : Addr} {fd : FuncData} {ps : List Str} (F : FunD K x qual params body scope [] [] f fd)
    (h : ∀ (kV doc pm : Value) (an : Option Addr) (cdv ct : Value) (us ws : List Value), (revU us ws).length = ps.length → bindArgs (PySem.W.fnOf x qual params body scope .none kV doc pm an cdv ct) ⟨us, ps.reverse.zip ws⟩ = pure (ps.zip (revU us ws))) : RevB K fd ps := by
  obtain ⟨oc, od, dV, kV, doc, pm, an, cdv, ct, osl, rfl, lk, hcd, hD, hK⟩ := F.ex
  rcases hD with ⟨_, rfl⟩ | ⟨e, _⟩
  · exact ⟨fun s us ws _ hl => .of_eq (h kV doc pm an cdv ct us ws hl), fun r1 r2 => r1.append (vals_rev r2)⟩
  · exact absurd rfl e
/-- no list stands in the written part -/
def noLst (K : PySem.W.Frag) : Bool := K.all fun p => match p.2.cls with
  | .type c => !decide (c = "list")
  | _ => true
theorem noLst_ok {K : PySem.W.Frag} (h : noLst K = true) {a : Addr} {o : Obj} (e : K.lookup a = some o) (hc : o.cls = .type "list") : False := by
  have h2 := List.all_eq_true.mp h (a, o) (He.lookup_mem e)
  dsimp only at h2
  rw [hc] at h2
  simp at h2
/-- the further test -/
def exT (K : PySem.W.Frag) : Bool := errB K (He.ga K "NotUsable") && (errB K (He.ga K "InvalidPaper") && (noLst K && (decide (PySem.W.nsIn K mainGlobals "heappush" = some (some (.builtin "_heapq.heappush"))) && decide (PySem.W.nsIn K mainGlobals "heappop" = some (some (.builtin "_heapq.heappop"))))))

def df_nodes_beneath : He.DefD := ⟨("nodes_beneath", none), "nodes_beneath", "nodes_beneath", defArgs s_nodes_beneath, defBody s_nodes_beneath, defScope s_nodes_beneath, [], []⟩
def df_piece_sizes : He.DefD := ⟨("piece_sizes", none), "piece_sizes", "piece_sizes", defArgs s_piece_sizes, defBody s_piece_sizes, defScope s_piece_sizes, [], []⟩
def df_a_begins : He.DefD := ⟨("a_begins", none), "a_begins", "a_begins", defArgs s_a_begins, defBody s_a_begins, defScope s_a_begins, [], []⟩
def df_a_goes_on : He.DefD := ⟨("a_goes_on", none), "a_goes_on", "a_goes_on", defArgs s_a_goes_on, defBody s_a_goes_on, defScope s_a_goes_on, [], []⟩
def df_is_word : He.DefD := ⟨("is_word", none), "is_word", "is_word", defArgs s_is_word, defBody s_is_word, defScope s_is_word, [], []⟩
def df_a_is_count : He.DefD := ⟨("_a_is_count", none), "_a_is_count", "_a_is_count", defArgs s_a_is_count, defBody s_a_is_count, defScope s_a_is_count, [], []⟩
def df_is_symbol : He.DefD := ⟨("is_symbol", none), "is_symbol", "is_symbol", defArgs s_is_symbol, defBody s_is_symbol, defScope s_is_symbol, [], []⟩
def df_a_is_row : He.DefD := ⟨("_a_is_row", none), "_a_is_row", "_a_is_row", defArgs s_a_is_row, defBody s_a_is_row, defScope s_a_is_row, [], []⟩
def df_is_tree : He.DefD := ⟨("is_tree", none), "is_tree", "is_tree", defArgs s_is_tree, defBody s_is_tree, defScope s_is_tree, [], []⟩
def df_is_integer_pair : He.DefD := ⟨("is_integer_pair", none), "is_integer_pair", "is_integer_pair", defArgs s_is_integer_pair, defBody s_is_integer_pair, defScope s_is_integer_pair, [], []⟩
def df_is_pair_row : He.DefD := ⟨("is_pair_row", none), "is_pair_row", "is_pair_row", defArgs s_is_pair_row, defBody s_is_pair_row, defScope s_is_pair_row, [], []⟩
def df_is_sheet : He.DefD := ⟨("is_sheet", none), "is_sheet", "is_sheet", defArgs s_is_sheet, defBody s_is_sheet, defScope s_is_sheet, [], []⟩
def df_added_pairs : He.DefD := ⟨("added_pairs", none), "added_pairs", "added_pairs", defArgs s_added_pairs, defBody s_added_pairs, defScope s_added_pairs, [], []⟩
def df_keeps_floor : He.DefD := ⟨("keeps_floor", none), "keeps_floor", "keeps_floor", defArgs s_keeps_floor, defBody s_keeps_floor, defScope s_keeps_floor, [], []⟩
def df_lets_floors : He.DefD := ⟨("lets_floors", none), "lets_floors", "lets_floors", defArgs s_lets_floors, defBody s_lets_floors, defScope s_lets_floors, [], []⟩
def df_users_of : He.DefD := ⟨("_users_of", none), "_users_of", "_users_of", defArgs s_users_of, defBody s_users_of, defScope s_users_of, [], []⟩
def df_settled_trees : He.DefD := ⟨("settled_trees", none), "settled_trees", "settled_trees", defArgs s_settled_trees, defBody s_settled_trees, defScope s_settled_trees, [], []⟩
def df_least_trees : He.DefD := ⟨("least_trees", none), "least_trees", "least_trees", defArgs s_least_trees, defBody s_least_trees, defScope s_least_trees, [], []⟩
def df_nearest_here : He.DefD := ⟨("nearest_here", none), "nearest_here", "nearest_here", defArgs s_nearest_here, defBody s_nearest_here, defScope s_nearest_here, [], []⟩
def df_nearest_by_node : He.DefD := ⟨("nearest_by_node", none), "nearest_by_node", "nearest_by_node", defArgs s_nearest_by_node, defBody s_nearest_by_node, defScope s_nearest_by_node, [], []⟩
def df_floors_of : He.DefD := ⟨("floors_of", none), "floors_of", "floors_of", defArgs s_floors_of, defBody s_floors_of, defScope s_floors_of, [], []⟩
def df_law_pick : He.DefD := ⟨("_law_pick", none), "_law_pick", "_law_pick", defArgs s_law_pick, defBody s_law_pick, defScope s_law_pick, [], []⟩
def df_law_symbols : He.DefD := ⟨("_law_symbols", none), "_law_symbols", "_law_symbols", defArgs s_law_symbols, defBody s_law_symbols, defScope s_law_symbols, [], []⟩
def df_law_free : He.DefD := ⟨("_law_free", none), "_law_free", "_law_free", defArgs s_law_free, defBody s_law_free, defScope s_law_free, [], []⟩
def df_law_trim : He.DefD := ⟨("_law_trim", none), "_law_trim", "_law_trim", defArgs s_law_trim, defBody s_law_trim, defScope s_law_trim, [], []⟩
def df_law_tree : He.DefD := ⟨("_law_tree", none), "_law_tree", "_law_tree", defArgs s_law_tree, defBody s_law_tree, defScope s_law_tree, [], []⟩
def df_law_ends : He.DefD := ⟨("_law_ends", none), "_law_ends", "_law_ends", defArgs s_law_ends, defBody s_law_ends, defScope s_law_ends, [], []⟩
def df_law_sum : He.DefD := ⟨("_law_sum", none), "_law_sum", "_law_sum", defArgs s_law_sum, defBody s_law_sum, defScope s_law_sum, [], []⟩
def df_law_bound : He.DefD := ⟨("_law_bound", none), "_law_bound", "_law_bound", defArgs s_law_bound, defBody s_law_bound, defScope s_law_bound, [], []⟩
def df_law_true : He.DefD := ⟨("_law_true", none), "_law_true", "_law_true", defArgs s_law_true, defBody s_law_true, defScope s_law_true, [], []⟩
def df_law_is_row : He.DefD := ⟨("_law_is_row", none), "_law_is_row", "_law_is_row", defArgs s_law_is_row, defBody s_law_is_row, defScope s_law_is_row, [], []⟩
def df_law_judged : He.DefD := ⟨("_law_judged", none), "_law_judged", "_law_judged", defArgs s_law_judged, defBody s_law_judged, defScope s_law_judged, [], []⟩
def df_law_same : He.DefD := ⟨("_law_same", none), "_law_same", "_law_same", defArgs s_law_same, defBody s_law_same, defScope s_law_same, [], []⟩
def df_law_right : He.DefD := ⟨("_law_right", none), "_law_right", "_law_right", defArgs s_law_right, defBody s_law_right, defScope s_law_right, [], []⟩
def df_law_bent : He.DefD := ⟨("_law_bent", none), "_law_bent", "_law_bent", defArgs s_law_bent, defBody s_law_bent, defScope s_law_bent, [], []⟩
def df_law_drawn : He.DefD := ⟨("_law_drawn", none), "_law_drawn", "_law_drawn", defArgs s_law_drawn, defBody s_law_drawn, defScope s_law_drawn, [], []⟩
def df_law_no_sheet : He.DefD := ⟨("_law_no_sheet", none), "_law_no_sheet", "_law_no_sheet", defArgs s_law_no_sheet, defBody s_law_no_sheet, defScope s_law_no_sheet, [], []⟩
def df_law : He.DefD := ⟨("law", none), "law", "law", defArgs s_law, defBody s_law, defScope s_law, [], []⟩
def df_law_refused : He.DefD := ⟨("_law_refused", none), "_law_refused", "_law_refused", defArgs s_law_refused, defBody s_law_refused, defScope s_law_refused, [], []⟩
def df_InvalidPaper : He.DefD := ⟨("InvalidPaper", some "__init__"), "__init__", "InvalidPaper.__init__", defArgs (firstS iPaper), defBody (firstS iPaper), defScope (firstS iPaper), [], []⟩
def df_NotUsable : He.DefD := ⟨("NotUsable", some "__init__"), "__init__", "NotUsable.__init__", defArgs (firstS iUse), defBody (firstS iUse), defScope (firstS iUse), [], []⟩
def fnT : List He.DefD := [df_nodes_beneath, df_piece_sizes, df_a_begins, df_a_goes_on, df_is_word, df_a_is_count, df_is_symbol, df_a_is_row, df_is_tree, df_is_integer_pair, df_is_pair_row, df_is_sheet, df_added_pairs, df_keeps_floor, df_lets_floors, df_users_of, df_settled_trees, df_least_trees, df_nearest_here, df_nearest_by_node] ++ [df_floors_of, df_law_pick, df_law_symbols, df_law_free, df_law_trim, df_law_tree, df_law_ends, df_law_sum, df_law_bound, df_law_true, df_law_is_row, df_law_judged, df_law_same, df_law_right, df_law_bent, df_law_drawn, df_law_no_sheet, df_law, df_law_refused, df_InvalidPaper, df_NotUsable]
def faT : List He.Fa := [.glo "nodes_beneath", .glo "piece_sizes", .glo "a_begins", .glo "a_goes_on", .glo "is_word", .glo "_a_is_count", .glo "is_symbol", .glo "_a_is_row", .glo "is_tree", .glo "is_integer_pair", .glo "is_pair_row", .glo "is_sheet", .glo "added_pairs", .glo "keeps_floor", .glo "lets_floors", .glo "_users_of", .glo "settled_trees", .glo "least_trees", .glo "nearest_here", .glo "nearest_by_node", .glo "floors_of", .glo "_law_pick", .glo "_law_symbols", .glo "_law_free", .glo "_law_trim"] ++ [.glo "_law_tree", .glo "_law_ends", .glo "_law_sum", .glo "_law_bound", .glo "_law_true", .glo "_law_is_row", .glo "_law_judged", .glo "_law_same", .glo "_law_right", .glo "_law_bent", .glo "_law_drawn", .glo "_law_no_sheet", .glo "law", .glo "_law_refused", .glo "NotUsable", .glo "InvalidPaper", .free "len", .free "sum", .free "all", .free "any", .free "min", .free "sorted", .free "isinstance", .free "int", .free "str", .free "bool", .free "tuple", .free "list", .free "set", .free "range", .free "reversed", .free "zip", .free "enumerate", .str "_A_LETTERS" aLetters, .str "_A_OTHERS" aOthers]
def looseT : List PySem.Str := (["StoodError", "PaperError", "UseError", "InvalidPaper", "NotUsable", "nodes_beneath", "piece_sizes", "_A_LETTERS", "_A_OTHERS", "a_begins", "a_goes_on", "is_word", "_a_is_count", "is_symbol", "_a_is_hole", "_a_is_row", "is_tree", "is_integer_pair", "is_pair_row", "is_sheet", "added_pairs", "keeps_floor", "lets_floors", "settled_trees", "_users_of", "least_trees", "nearest_here", "nearest_by_node"] : List PySem.Str) ++ (["floors_of", "_law_pick", "_law_symbols", "_law_free", "_law_trim", "_law_tree", "_law_ends", "_law_sum", "_law_bound", "_law_true", "_law_is_row", "_law_judged", "_law_same", "_law_refused", "_law_right", "_law_bent", "_law_drawn", "_law_no_sheet"] : List PySem.Str)
abbrev lawD : He.Defn := ("law", none)
abbrev RwT : PySem.W.OpenRow := PySem.W.OpenLaw.row PySem.Challenge.rw_stoodthere_k63_whole_floors
abbrev qT : Program := PySem.W.view RwT.prog [0, 57]
abbrev hkT : PySem.W.Hook := He.hookX 5 faT fnT [] [lawD] exT
def obT (s : PySem.W.SharedT) : He.AlX := He.obsX 5 faT fnT [] [lawD] exT (HandSHeadRun.getT s)
theorem obT_eq (s : PySem.W.SharedT) : obT s = hkT.obs s.abs := He.obsX_eq (HandSHeadRun.getT_eq s)

section
variable {P : Program} {w : World} {K : PySem.W.Frag} {mg : Str → Option Value} {base h : Heap}
theorem rai_of {x : Str} {i : Nat} {fd : FuncData} (E : ErrOk K (He.ga K x)) (gC : mg x = some (.ref (He.ga K x))) (F : FnOk P w K mg base CX0 1 (He.ma K (He.ga K x) "__init__") fd ["self", "word", "at"] (spInit K)) (b : Binds K fd ["self", "word", "at"] []) : Rai P w K mg base x (He.ga K x) (He.ma K (He.ga K x) "__init__") fd :=
  ⟨E.err, gC, E.iC, E.tI, F, b⟩

theorem all_ok (X : K.In base) (G : base.Ns mainGlobals mg) (c : He.SaysD faT fnT K) (ce : exT K = true) {cc P0 : Addr} (TB : LamX.TabB base mg cc P0) (hcc : He.codeOf K lawD = cc) {fd_law : FuncData} (FD_law : FunD K "law" "law" (defArgs s_law) (defBody s_law) (defScope s_law) [] [] (He.ga K "law") fd_law) :
    FnOk P w K mg base CX0 9 (He.ga K "law") fd_law ["_law_script"] (memSp (sp_law P0)) := by
  obtain ⟨c1, ce⟩ := Bool.and_eq_true_iff.mp ce
  obtain ⟨c2, ce⟩ := Bool.and_eq_true_iff.mp ce
  obtain ⟨c3, ce⟩ := Bool.and_eq_true_iff.mp ce
  obtain ⟨c4, c5⟩ := Bool.and_eq_true_iff.mp ce
  have E_NotUsable := errB_ok c1
  have E_InvalidPaper := errB_ok c2
  obtain ⟨fd_nodes_beneath, FD_nodes_beneath⟩ := c.def_ 0 (d := df_nodes_beneath) rfl
  obtain ⟨fd_piece_sizes, FD_piece_sizes⟩ := c.def_ 1 (d := df_piece_sizes) rfl
  obtain ⟨fd_a_begins, FD_a_begins⟩ := c.def_ 2 (d := df_a_begins) rfl
  obtain ⟨fd_a_goes_on, FD_a_goes_on⟩ := c.def_ 3 (d := df_a_goes_on) rfl
  obtain ⟨fd_is_word, FD_is_word⟩ := c.def_ 4 (d := df_is_word) rfl
  obtain ⟨fd_a_is_count, FD_a_is_count⟩ := c.def_ 5 (d := df_a_is_count) rfl
  obtain ⟨fd_is_symbol, FD_is_symbol⟩ := c.def_ 6 (d := df_is_symbol) rfl
  obtain ⟨fd_a_is_row, FD_a_is_row⟩ := c.def_ 7 (d := df_a_is_row) rfl
  obtain ⟨fd_is_tree, FD_is_tree⟩ := c.def_ 8 (d := df_is_tree) rfl
  obtain ⟨fd_is_integer_pair, FD_is_integer_pair⟩ := c.def_ 9 (d := df_is_integer_pair) rfl
  obtain ⟨fd_is_pair_row, FD_is_pair_row⟩ := c.def_ 10 (d := df_is_pair_row) rfl
  obtain ⟨fd_is_sheet, FD_is_sheet⟩ := c.def_ 11 (d := df_is_sheet) rfl
  obtain ⟨fd_added_pairs, FD_added_pairs⟩ := c.def_ 12 (d := df_added_pairs) rfl
  obtain ⟨fd_keeps_floor, FD_keeps_floor⟩ := c.def_ 13 (d := df_keeps_floor) rfl
  obtain ⟨fd_lets_floors, FD_lets_floors⟩ := c.def_ 14 (d := df_lets_floors) rfl
  obtain ⟨fd_users_of, FD_users_of⟩ := c.def_ 15 (d := df_users_of) rfl
  obtain ⟨fd_settled_trees, FD_settled_trees⟩ := c.def_ 16 (d := df_settled_trees) rfl
  obtain ⟨fd_least_trees, FD_least_trees⟩ := c.def_ 17 (d := df_least_trees) rfl
  obtain ⟨fd_nearest_here, FD_nearest_here⟩ := c.def_ 18 (d := df_nearest_here) rfl
  obtain ⟨fd_nearest_by_node, FD_nearest_by_node⟩ := c.def_ 19 (d := df_nearest_by_node) rfl
  obtain ⟨fd_floors_of, FD_floors_of⟩ := c.def_ 20 (d := df_floors_of) rfl
  obtain ⟨fd_law_pick, FD_law_pick⟩ := c.def_ 21 (d := df_law_pick) rfl
  obtain ⟨fd_law_symbols, FD_law_symbols⟩ := c.def_ 22 (d := df_law_symbols) rfl
  obtain ⟨fd_law_free, FD_law_free⟩ := c.def_ 23 (d := df_law_free) rfl
  obtain ⟨fd_law_trim, FD_law_trim⟩ := c.def_ 24 (d := df_law_trim) rfl
  obtain ⟨fd_law_tree, FD_law_tree⟩ := c.def_ 25 (d := df_law_tree) rfl
  obtain ⟨fd_law_ends, FD_law_ends⟩ := c.def_ 26 (d := df_law_ends) rfl
  obtain ⟨fd_law_sum, FD_law_sum⟩ := c.def_ 27 (d := df_law_sum) rfl
  obtain ⟨fd_law_bound, FD_law_bound⟩ := c.def_ 28 (d := df_law_bound) rfl
  obtain ⟨fd_law_true, FD_law_true⟩ := c.def_ 29 (d := df_law_true) rfl
  obtain ⟨fd_law_is_row, FD_law_is_row⟩ := c.def_ 30 (d := df_law_is_row) rfl
  obtain ⟨fd_law_judged, FD_law_judged⟩ := c.def_ 31 (d := df_law_judged) rfl
  obtain ⟨fd_law_same, FD_law_same⟩ := c.def_ 32 (d := df_law_same) rfl
  obtain ⟨fd_law_right, FD_law_right⟩ := c.def_ 33 (d := df_law_right) rfl
  obtain ⟨fd_law_bent, FD_law_bent⟩ := c.def_ 34 (d := df_law_bent) rfl
  obtain ⟨fd_law_drawn, FD_law_drawn⟩ := c.def_ 35 (d := df_law_drawn) rfl
  obtain ⟨fd_law_no_sheet, FD_law_no_sheet⟩ := c.def_ 36 (d := df_law_no_sheet) rfl
  obtain ⟨fd_law_refused, FD_law_refused⟩ := c.def_ 38 (d := df_law_refused) rfl
  obtain ⟨fd_InvalidPaper, FD_InvalidPaper⟩ := c.def_ 39 (d := df_InvalidPaper) rfl
  obtain ⟨fd_NotUsable, FD_NotUsable⟩ := c.def_ 40 (d := df_NotUsable) rfl
  have g_nodes_beneath : mg "nodes_beneath" = some (.ref (He.ga K "nodes_beneath")) := He.glo_ok X G (c.fact 0 (f := .glo "nodes_beneath") rfl)
  have g_piece_sizes : mg "piece_sizes" = some (.ref (He.ga K "piece_sizes")) := He.glo_ok X G (c.fact 1 (f := .glo "piece_sizes") rfl)
  have g_a_begins : mg "a_begins" = some (.ref (He.ga K "a_begins")) := He.glo_ok X G (c.fact 2 (f := .glo "a_begins") rfl)
  have g_a_goes_on : mg "a_goes_on" = some (.ref (He.ga K "a_goes_on")) := He.glo_ok X G (c.fact 3 (f := .glo "a_goes_on") rfl)
  have g_is_word : mg "is_word" = some (.ref (He.ga K "is_word")) := He.glo_ok X G (c.fact 4 (f := .glo "is_word") rfl)
  have g_a_is_count : mg "_a_is_count" = some (.ref (He.ga K "_a_is_count")) := He.glo_ok X G (c.fact 5 (f := .glo "_a_is_count") rfl)
  have g_is_symbol : mg "is_symbol" = some (.ref (He.ga K "is_symbol")) := He.glo_ok X G (c.fact 6 (f := .glo "is_symbol") rfl)
  have g_a_is_row : mg "_a_is_row" = some (.ref (He.ga K "_a_is_row")) := He.glo_ok X G (c.fact 7 (f := .glo "_a_is_row") rfl)
  have g_is_tree : mg "is_tree" = some (.ref (He.ga K "is_tree")) := He.glo_ok X G (c.fact 8 (f := .glo "is_tree") rfl)
  have g_is_integer_pair : mg "is_integer_pair" = some (.ref (He.ga K "is_integer_pair")) := He.glo_ok X G (c.fact 9 (f := .glo "is_integer_pair") rfl)
  have g_is_pair_row : mg "is_pair_row" = some (.ref (He.ga K "is_pair_row")) := He.glo_ok X G (c.fact 10 (f := .glo "is_pair_row") rfl)
  have g_is_sheet : mg "is_sheet" = some (.ref (He.ga K "is_sheet")) := He.glo_ok X G (c.fact 11 (f := .glo "is_sheet") rfl)
  have g_added_pairs : mg "added_pairs" = some (.ref (He.ga K "added_pairs")) := He.glo_ok X G (c.fact 12 (f := .glo "added_pairs") rfl)
  have g_keeps_floor : mg "keeps_floor" = some (.ref (He.ga K "keeps_floor")) := He.glo_ok X G (c.fact 13 (f := .glo "keeps_floor") rfl)
  have g_lets_floors : mg "lets_floors" = some (.ref (He.ga K "lets_floors")) := He.glo_ok X G (c.fact 14 (f := .glo "lets_floors") rfl)
  have g_users_of : mg "_users_of" = some (.ref (He.ga K "_users_of")) := He.glo_ok X G (c.fact 15 (f := .glo "_users_of") rfl)
  have g_settled_trees : mg "settled_trees" = some (.ref (He.ga K "settled_trees")) := He.glo_ok X G (c.fact 16 (f := .glo "settled_trees") rfl)
  have g_least_trees : mg "least_trees" = some (.ref (He.ga K "least_trees")) := He.glo_ok X G (c.fact 17 (f := .glo "least_trees") rfl)
  have g_nearest_here : mg "nearest_here" = some (.ref (He.ga K "nearest_here")) := He.glo_ok X G (c.fact 18 (f := .glo "nearest_here") rfl)
  have g_nearest_by_node : mg "nearest_by_node" = some (.ref (He.ga K "nearest_by_node")) := He.glo_ok X G (c.fact 19 (f := .glo "nearest_by_node") rfl)
  have g_floors_of : mg "floors_of" = some (.ref (He.ga K "floors_of")) := He.glo_ok X G (c.fact 20 (f := .glo "floors_of") rfl)
  have g_law_pick : mg "_law_pick" = some (.ref (He.ga K "_law_pick")) := He.glo_ok X G (c.fact 21 (f := .glo "_law_pick") rfl)
  have g_law_symbols : mg "_law_symbols" = some (.ref (He.ga K "_law_symbols")) := He.glo_ok X G (c.fact 22 (f := .glo "_law_symbols") rfl)
  have g_law_free : mg "_law_free" = some (.ref (He.ga K "_law_free")) := He.glo_ok X G (c.fact 23 (f := .glo "_law_free") rfl)
  have g_law_trim : mg "_law_trim" = some (.ref (He.ga K "_law_trim")) := He.glo_ok X G (c.fact 24 (f := .glo "_law_trim") rfl)
  have g_law_tree : mg "_law_tree" = some (.ref (He.ga K "_law_tree")) := He.glo_ok X G (c.fact 25 (f := .glo "_law_tree") rfl)
  have g_law_ends : mg "_law_ends" = some (.ref (He.ga K "_law_ends")) := He.glo_ok X G (c.fact 26 (f := .glo "_law_ends") rfl)
  have g_law_sum : mg "_law_sum" = some (.ref (He.ga K "_law_sum")) := He.glo_ok X G (c.fact 27 (f := .glo "_law_sum") rfl)
  have g_law_bound : mg "_law_bound" = some (.ref (He.ga K "_law_bound")) := He.glo_ok X G (c.fact 28 (f := .glo "_law_bound") rfl)
  have g_law_true : mg "_law_true" = some (.ref (He.ga K "_law_true")) := He.glo_ok X G (c.fact 29 (f := .glo "_law_true") rfl)
  have g_law_is_row : mg "_law_is_row" = some (.ref (He.ga K "_law_is_row")) := He.glo_ok X G (c.fact 30 (f := .glo "_law_is_row") rfl)
  have g_law_judged : mg "_law_judged" = some (.ref (He.ga K "_law_judged")) := He.glo_ok X G (c.fact 31 (f := .glo "_law_judged") rfl)
  have g_law_same : mg "_law_same" = some (.ref (He.ga K "_law_same")) := He.glo_ok X G (c.fact 32 (f := .glo "_law_same") rfl)
  have g_law_right : mg "_law_right" = some (.ref (He.ga K "_law_right")) := He.glo_ok X G (c.fact 33 (f := .glo "_law_right") rfl)
  have g_law_bent : mg "_law_bent" = some (.ref (He.ga K "_law_bent")) := He.glo_ok X G (c.fact 34 (f := .glo "_law_bent") rfl)
  have g_law_drawn : mg "_law_drawn" = some (.ref (He.ga K "_law_drawn")) := He.glo_ok X G (c.fact 35 (f := .glo "_law_drawn") rfl)
  have g_law_no_sheet : mg "_law_no_sheet" = some (.ref (He.ga K "_law_no_sheet")) := He.glo_ok X G (c.fact 36 (f := .glo "_law_no_sheet") rfl)
  have g_law : mg "law" = some (.ref (He.ga K "law")) := He.glo_ok X G (c.fact 37 (f := .glo "law") rfl)
  have g_law_refused : mg "_law_refused" = some (.ref (He.ga K "_law_refused")) := He.glo_ok X G (c.fact 38 (f := .glo "_law_refused") rfl)
  have g_NotUsable : mg "NotUsable" = some (.ref (He.ga K "NotUsable")) := He.glo_ok X G (c.fact 39 (f := .glo "NotUsable") rfl)
  have g_InvalidPaper : mg "InvalidPaper" = some (.ref (He.ga K "InvalidPaper")) := He.glo_ok X G (c.fact 40 (f := .glo "InvalidPaper") rfl)
  have T : Txt K mg := ⟨He.free_ok X G (c.fact 41 (f := .free "len") rfl), He.free_ok X G (c.fact 42 (f := .free "sum") rfl), He.free_ok X G (c.fact 43 (f := .free "all") rfl), He.free_ok X G (c.fact 44 (f := .free "any") rfl), He.free_ok X G (c.fact 45 (f := .free "min") rfl), He.free_ok X G (c.fact 46 (f := .free "sorted") rfl), He.free_ok X G (c.fact 47 (f := .free "isinstance") rfl), He.free_ok X G (c.fact 48 (f := .free "int") rfl), He.free_ok X G (c.fact 49 (f := .free "str") rfl), He.free_ok X G (c.fact 50 (f := .free "bool") rfl), He.free_ok X G (c.fact 51 (f := .free "tuple") rfl), He.free_ok X G (c.fact 52 (f := .free "list") rfl), He.free_ok X G (c.fact 53 (f := .free "set") rfl), He.free_ok X G (c.fact 54 (f := .free "range") rfl), He.free_ok X G (c.fact 55 (f := .free "reversed") rfl), He.free_ok X G (c.fact 56 (f := .free "zip") rfl), He.free_ok X G (c.fact 57 (f := .free "enumerate") rfl), PySem.W.mg_of X G (of_decide_eq_true c4), PySem.W.mg_of X G (of_decide_eq_true c5), He.str_ok X G (c.fact 58 (f := .str "_A_LETTERS" aLetters) rfl), He.str_ok X G (c.fact 59 (f := .str "_A_OTHERS" aOthers) rfl)⟩
  have B_nodes_beneath : Binds K fd_nodes_beneath ["tree"] [] := FD_nodes_beneath.bindsN fun _ _ _ _ _ _ us hl => match us, hl with | [_], _ => rfl
  have B_piece_sizes : Binds K fd_piece_sizes ["beneath"] [] := FD_piece_sizes.bindsN fun _ _ _ _ _ _ us hl => match us, hl with | [_], _ => rfl
  have B_a_begins : Binds K fd_a_begins ["sign"] [] := FD_a_begins.bindsN fun _ _ _ _ _ _ us hl => match us, hl with | [_], _ => rfl
  have B_a_goes_on : Binds K fd_a_goes_on ["sign"] [] := FD_a_goes_on.bindsN fun _ _ _ _ _ _ us hl => match us, hl with | [_], _ => rfl
  have B_is_word : Binds K fd_is_word ["thing"] [] := FD_is_word.bindsN fun _ _ _ _ _ _ us hl => match us, hl with | [_], _ => rfl
  have B_a_is_count : Binds K fd_a_is_count ["thing"] [] := FD_a_is_count.bindsN fun _ _ _ _ _ _ us hl => match us, hl with | [_], _ => rfl
  have B_is_symbol : Binds K fd_is_symbol ["thing"] [] := FD_is_symbol.bindsN fun _ _ _ _ _ _ us hl => match us, hl with | [_], _ => rfl
  have B_a_is_row : Binds K fd_a_is_row ["thing", "holes"] [] := FD_a_is_row.bindsN fun _ _ _ _ _ _ us hl => match us, hl with | [_, _], _ => rfl
  have B_is_tree : Binds K fd_is_tree ["thing"] [] := FD_is_tree.bindsN fun _ _ _ _ _ _ us hl => match us, hl with | [_], _ => rfl
  have B_is_integer_pair : Binds K fd_is_integer_pair ["thing"] [] := FD_is_integer_pair.bindsN fun _ _ _ _ _ _ us hl => match us, hl with | [_], _ => rfl
  have B_is_pair_row : Binds K fd_is_pair_row ["thing", "many"] [] := FD_is_pair_row.bindsN fun _ _ _ _ _ _ us hl => match us, hl with | [_, _], _ => rfl
  have B_is_sheet : Binds K fd_is_sheet ["thing", "names", "nodes"] [] := FD_is_sheet.bindsN fun _ _ _ _ _ _ us hl => match us, hl with | [_, _, _], _ => rfl
  have B_added_pairs : Binds K fd_added_pairs ["first", "pairs"] [] := FD_added_pairs.bindsN fun _ _ _ _ _ _ us hl => match us, hl with | [_, _], _ => rfl
  have B_keeps_floor : Binds K fd_keeps_floor ["rule", "symbol", "size", "pair", "row", "lower"] [] := FD_keeps_floor.bindsN fun _ _ _ _ _ _ us hl => match us, hl with | [_, _, _, _, _, _], _ => rfl
  have B_lets_floors : Binds K fd_lets_floors ["driven", "tree", "thing"] [] := FD_lets_floors.bindsN fun _ _ _ _ _ _ us hl => match us, hl with | [_, _, _], _ => rfl
  have B_users_of : Binds K fd_users_of ["rules"] [] := FD_users_of.bindsN fun _ _ _ _ _ _ us hl => match us, hl with | [_], _ => rfl
  have B_settled_trees : Binds K fd_settled_trees ["rules"] [] := FD_settled_trees.bindsN fun _ _ _ _ _ _ us hl => match us, hl with | [_], _ => rfl
  have B_least_trees : Binds K fd_least_trees ["grammar"] [] := FD_least_trees.bindsN fun _ _ _ _ _ _ us hl => match us, hl with | [_], _ => rfl
  have B_nearest_here : Binds K fd_nearest_here ["driven", "symbol", "size", "tables", "plain"] [] := FD_nearest_here.bindsN fun _ _ _ _ _ _ us hl => match us, hl with | [_, _, _, _, _], _ => rfl
  have B_nearest_by_node : Binds K fd_nearest_by_node ["driven", "tree", "least"] [] := FD_nearest_by_node.bindsN fun _ _ _ _ _ _ us hl => match us, hl with | [_, _, _], _ => rfl
  have B_floors_of : Binds K fd_floors_of ["driven", "tree"] [] := FD_floors_of.bindsN fun _ _ _ _ _ _ us hl => match us, hl with | [_, _], _ => rfl
  have B_law_pick : Binds K fd_law_pick ["_law_tape", "_law_many"] [] := FD_law_pick.bindsN fun _ _ _ _ _ _ us hl => match us, hl with | [_, _], _ => rfl
  have B_law_symbols : Binds K fd_law_symbols [] [] := FD_law_symbols.bindsN fun _ _ _ _ _ _ us hl => match us, hl with | [], _ => rfl
  have B_law_free : Binds K fd_law_free ["_law_tape"] [] := FD_law_free.bindsN fun _ _ _ _ _ _ us hl => match us, hl with | [_], _ => rfl
  have B_law_trim : Binds K fd_law_trim ["_law_grammar"] [] := FD_law_trim.bindsN fun _ _ _ _ _ _ us hl => match us, hl with | [_], _ => rfl
  have B_law_tree : Binds K fd_law_tree ["_law_tape", "_law_grammar"] [] := FD_law_tree.bindsN fun _ _ _ _ _ _ us hl => match us, hl with | [_, _], _ => rfl
  have B_law_ends : Binds K fd_law_ends ["_law_tree_here"] [] := FD_law_ends.bindsN fun _ _ _ _ _ _ us hl => match us, hl with | [_], _ => rfl
  have B_law_sum : Binds K fd_law_sum ["_law_pair", "_law_pairs"] [] := FD_law_sum.bindsN fun _ _ _ _ _ _ us hl => match us, hl with | [_, _], _ => rfl
  have B_law_bound : Binds K fd_law_bound ["_law_tree_here", "_law_ends_here", "_law_node", "_law_rule", "_law_z", "_law_h"] [] := FD_law_bound.bindsN fun _ _ _ _ _ _ us hl => match us, hl with | [_, _, _, _, _, _], _ => rfl
  have B_law_true : Binds K fd_law_true ["_law_grammar", "_law_tree_here"] [] := FD_law_true.bindsN fun _ _ _ _ _ _ us hl => match us, hl with | [_, _], _ => rfl
  have B_law_is_row : Binds K fd_law_is_row ["_law_thing", "_law_many"] [] := FD_law_is_row.bindsN fun _ _ _ _ _ _ us hl => match us, hl with | [_, _], _ => rfl
  have B_law_judged : Binds K fd_law_judged ["_law_grammar", "_law_tree_here", "_law_thing"] [] := FD_law_judged.bindsN fun _ _ _ _ _ _ us hl => match us, hl with | [_, _, _], _ => rfl
  have B_law_same : Binds K fd_law_same ["_law_told", "_law_due"] [] := FD_law_same.bindsN fun _ _ _ _ _ _ us hl => match us, hl with | [_, _], _ => rfl
  have B_law_right : Binds K fd_law_right ["_law_grammar", "_law_tree_here", "_law_thing"] [] := FD_law_right.bindsN fun _ _ _ _ _ _ us hl => match us, hl with | [_, _, _], _ => rfl
  have B_law_bent : Binds K fd_law_bent ["_law_tape", "_law_grammar", "_law_sheet"] [] := FD_law_bent.bindsN fun _ _ _ _ _ _ us hl => match us, hl with | [_, _, _], _ => rfl
  have B_law_drawn : Binds K fd_law_drawn ["_law_tape", "_law_grammar", "_law_tree_here"] [] := FD_law_drawn.bindsN fun _ _ _ _ _ _ us hl => match us, hl with | [_, _, _], _ => rfl
  have B_law_no_sheet : Binds K fd_law_no_sheet ["_law_tape", "_law_sheet"] [] := FD_law_no_sheet.bindsN fun _ _ _ _ _ _ us hl => match us, hl with | [_, _], _ => rfl
  have B_law_refused : Binds K fd_law_refused ["_law_call", "_law_word"] [] := FD_law_refused.bindsN fun _ _ _ _ _ _ us hl => match us, hl with | [_, _], _ => rfl
  have B_InvalidPaper : Binds K fd_InvalidPaper ["self", "word", "at"] [] := FD_InvalidPaper.bindsN fun _ _ _ _ _ _ us hl => match us, hl with | [_, _, _], _ => rfl
  have B_NotUsable : Binds K fd_NotUsable ["self", "word", "at"] [] := FD_NotUsable.bindsN fun _ _ _ _ _ _ us hl => match us, hl with | [_, _, _], _ => rfl
  have T_InvalidPaper : Rai P w K mg base "InvalidPaper" (He.ga K "InvalidPaper") (He.ma K (He.ga K "InvalidPaper") "__init__") fd_InvalidPaper := ⟨E_InvalidPaper.err, g_InvalidPaper, E_InvalidPaper.iC, E_InvalidPaper.tI, ok_initP (fun_of FD_InvalidPaper), B_InvalidPaper⟩
  have T_NotUsable : Rai P w K mg base "NotUsable" (He.ga K "NotUsable") (He.ma K (He.ga K "NotUsable") "__init__") fd_NotUsable := ⟨E_NotUsable.err, g_NotUsable, E_NotUsable.iC, E_NotUsable.tI, ok_initU (fun_of FD_NotUsable), B_NotUsable⟩
  have R_floors_of : RevB K fd_floors_of ["driven", "tree"] := rev_of FD_floors_of fun kV doc pm an cdv ct us ws hl => by
    rcases us with _ | ⟨u1, _ | ⟨u2, _ | ⟨u3, _ | ⟨u4, us⟩⟩⟩⟩ <;> rcases ws with _ | ⟨w1, _ | ⟨w2, _ | ⟨w3, _ | ⟨w4, ws⟩⟩⟩⟩ <;> first | (exfalso; simp [revU] at hl; done) | (exfalso; simp [revU] at hl; omega) | rfl
  have R_lets_floors : RevB K fd_lets_floors ["driven", "tree", "thing"] := rev_of FD_lets_floors fun kV doc pm an cdv ct us ws hl => by
    rcases us with _ | ⟨u1, _ | ⟨u2, _ | ⟨u3, _ | ⟨u4, us⟩⟩⟩⟩ <;> rcases ws with _ | ⟨w1, _ | ⟨w2, _ | ⟨w3, _ | ⟨w4, ws⟩⟩⟩⟩ <;> first | (exfalso; simp [revU] at hl; done) | (exfalso; simp [revU] at hl; omega) | rfl
  have C_nodes_beneath : Cal P w K mg base CX0 1 "nodes_beneath" ["tree"] (pureSp sp_nodes_beneath) (He.ga K "nodes_beneath") fd_nodes_beneath := ⟨ok_nodes_beneath (fun_of FD_nodes_beneath) T, g_nodes_beneath, FD_nodes_beneath.kp, B_nodes_beneath⟩
  have C_piece_sizes : Cal P w K mg base CX0 1 "piece_sizes" ["beneath"] (pureSp sp_piece_sizes) (He.ga K "piece_sizes") fd_piece_sizes := ⟨ok_piece_sizes (fun_of FD_piece_sizes) T, g_piece_sizes, FD_piece_sizes.kp, B_piece_sizes⟩
  have C_a_begins : Cal P w K mg base CX0 1 "a_begins" ["sign"] (pureSp sp_a_begins) (He.ga K "a_begins") fd_a_begins := ⟨ok_a_begins (fun_of FD_a_begins) T, g_a_begins, FD_a_begins.kp, B_a_begins⟩
  have C_a_goes_on : Cal P w K mg base CX0 1 "a_goes_on" ["sign"] (pureSp sp_a_goes_on) (He.ga K "a_goes_on") fd_a_goes_on := ⟨ok_a_goes_on (fun_of FD_a_goes_on) T, g_a_goes_on, FD_a_goes_on.kp, B_a_goes_on⟩
  have C_is_word : Cal P w K mg base CX0 2 "is_word" ["thing"] (pureSp sp_is_word) (He.ga K "is_word") fd_is_word := ⟨ok_is_word (fun_of FD_is_word) T C_a_begins C_a_goes_on, g_is_word, FD_is_word.kp, B_is_word⟩
  have C_a_is_count : Cal P w K mg base CX0 1 "_a_is_count" ["thing"] (pureSp sp_a_is_count) (He.ga K "_a_is_count") fd_a_is_count := ⟨ok_a_is_count (fun_of FD_a_is_count) T, g_a_is_count, FD_a_is_count.kp, B_a_is_count⟩
  have C_is_symbol : Cal P w K mg base CX0 3 "is_symbol" ["thing"] (pureSp sp_is_symbol) (He.ga K "is_symbol") fd_is_symbol := ⟨ok_is_symbol (fun_of FD_is_symbol) T C_is_word C_a_is_count, g_is_symbol, FD_is_symbol.kp, B_is_symbol⟩
  have C_a_is_row : Cal P w K mg base CX0 4 "_a_is_row" ["thing", "holes"] (pureSp sp_a_is_row) (He.ga K "_a_is_row") fd_a_is_row := ⟨ok_a_is_row (fun_of FD_a_is_row) T C_is_symbol, g_a_is_row, FD_a_is_row.kp, B_a_is_row⟩
  have C_is_tree : Cal P w K mg base CX0 5 "is_tree" ["thing"] (pureSp sp_is_tree) (He.ga K "is_tree") fd_is_tree := ⟨ok_is_tree (fun_of FD_is_tree) T C_a_is_row, g_is_tree, FD_is_tree.kp, B_is_tree⟩
  have C_is_integer_pair : Cal P w K mg base CX0 1 "is_integer_pair" ["thing"] (pureSp sp_is_integer_pair) (He.ga K "is_integer_pair") fd_is_integer_pair := ⟨ok_is_integer_pair (fun_of FD_is_integer_pair) T, g_is_integer_pair, FD_is_integer_pair.kp, B_is_integer_pair⟩
  have C_is_pair_row : Cal P w K mg base CX0 2 "is_pair_row" ["thing", "many"] (pureSp sp_is_pair_row) (He.ga K "is_pair_row") fd_is_pair_row := ⟨ok_is_pair_row (fun_of FD_is_pair_row) T C_is_integer_pair, g_is_pair_row, FD_is_pair_row.kp, B_is_pair_row⟩
  have C_is_sheet : Cal P w K mg base CX0 3 "is_sheet" ["thing", "names", "nodes"] (pureSp sp_is_sheet) (He.ga K "is_sheet") fd_is_sheet := ⟨ok_is_sheet (fun_of FD_is_sheet) T C_is_pair_row, g_is_sheet, FD_is_sheet.kp, B_is_sheet⟩
  have C_added_pairs : Cal P w K mg base CX0 1 "added_pairs" ["first", "pairs"] (pureSp sp_added_pairs) (He.ga K "added_pairs") fd_added_pairs := ⟨ok_added_pairs (fun_of FD_added_pairs) T, g_added_pairs, FD_added_pairs.kp, B_added_pairs⟩
  have C_keeps_floor : Cal P w K mg base CX0 2 "keeps_floor" ["rule", "symbol", "size", "pair", "row", "lower"] (pureSp sp_keeps_floor) (He.ga K "keeps_floor") fd_keeps_floor := ⟨ok_keeps_floor (fun_of FD_keeps_floor) T C_added_pairs, g_keeps_floor, FD_keeps_floor.kp, B_keeps_floor⟩
  have C_lets_floors : Cal P w K mg base (L2N.CX P w) 6 "lets_floors" ["driven", "tree", "thing"] (pureSp (sp_lets_floors (He.ga K "NotUsable") (He.ga K "InvalidPaper"))) (He.ga K "lets_floors") fd_lets_floors := ⟨ok_lets_floors (fun_of FD_lets_floors) T C_is_tree C_is_sheet C_added_pairs C_nodes_beneath C_piece_sizes C_keeps_floor T_InvalidPaper T_NotUsable, g_lets_floors, FD_lets_floors.kp, B_lets_floors⟩
  have C_users_of : Cal P w K mg base CX0 1 "_users_of" ["rules"] (memSp sp_users_of) (He.ga K "_users_of") fd_users_of := ⟨ok_users_of (fun_of FD_users_of) T, g_users_of, FD_users_of.kp, B_users_of⟩
  have C_settled_trees : Cal P w K mg base CX0 2 "settled_trees" ["rules"] (memSp sp_settled_trees) (He.ga K "settled_trees") fd_settled_trees := ⟨ok_settled_trees (fun_of FD_settled_trees) T C_users_of, g_settled_trees, FD_settled_trees.kp, B_settled_trees⟩
  have C_least_trees : Cal P w K mg base CX0 3 "least_trees" ["grammar"] (pureSp sp_least_trees) (He.ga K "least_trees") fd_least_trees := ⟨ok_least_trees (fun_of FD_least_trees) T C_settled_trees, g_least_trees, FD_least_trees.kp, B_least_trees⟩
  have C_nearest_here : Cal P w K mg base CX0 1 "nearest_here" ["driven", "symbol", "size", "tables", "plain"] (pureSp sp_nearest_here) (He.ga K "nearest_here") fd_nearest_here := ⟨ok_nearest_here (fun_of FD_nearest_here) T, g_nearest_here, FD_nearest_here.kp, B_nearest_here⟩
  have C_nearest_by_node : Cal P w K mg base CX0 2 "nearest_by_node" ["driven", "tree", "least"] (pureSp sp_nearest_by_node) (He.ga K "nearest_by_node") fd_nearest_by_node := ⟨ok_nearest_by_node (fun_of FD_nearest_by_node) T C_nodes_beneath C_piece_sizes C_nearest_here, g_nearest_by_node, FD_nearest_by_node.kp, B_nearest_by_node⟩
  have C_floors_of : Cal P w K mg base (L2N.CX P w) 6 "floors_of" ["driven", "tree"] (pureSp (sp_floors_of (He.ga K "NotUsable"))) (He.ga K "floors_of") fd_floors_of := ⟨ok_floors_of (fun_of FD_floors_of) T C_is_tree C_least_trees C_nearest_by_node T_NotUsable, g_floors_of, FD_floors_of.kp, B_floors_of⟩
  have C_law_pick : Cal P w K mg base CX0 1 "_law_pick" ["_law_tape", "_law_many"] (memSp sp_law_pick) (He.ga K "_law_pick") fd_law_pick := ⟨ok_law_pick (fun_of FD_law_pick) T, g_law_pick, FD_law_pick.kp, B_law_pick⟩
  have C_law_symbols : Cal P w K mg base CX0 1 "_law_symbols" [] (pureSp sp_law_symbols) (He.ga K "_law_symbols") fd_law_symbols := ⟨ok_law_symbols (fun_of FD_law_symbols) T, g_law_symbols, FD_law_symbols.kp, B_law_symbols⟩
  have C_law_free : Cal P w K mg base CX0 2 "_law_free" ["_law_tape"] (memSp sp_law_free) (He.ga K "_law_free") fd_law_free := ⟨ok_law_free (fun_of FD_law_free) T C_law_pick C_law_symbols, g_law_free, FD_law_free.kp, B_law_free⟩
  have C_law_trim : Cal P w K mg base CX0 1 "_law_trim" ["_law_grammar"] (pureSp sp_law_trim) (He.ga K "_law_trim") fd_law_trim := ⟨ok_law_trim (fun_of FD_law_trim) T, g_law_trim, FD_law_trim.kp, B_law_trim⟩
  have C_law_tree : Cal P w K mg base CX0 2 "_law_tree" ["_law_tape", "_law_grammar"] (memSp sp_law_tree) (He.ga K "_law_tree") fd_law_tree := ⟨ok_law_tree (fun_of FD_law_tree) T C_law_pick C_law_symbols, g_law_tree, FD_law_tree.kp, B_law_tree⟩
  have C_law_ends : Cal P w K mg base CX0 1 "_law_ends" ["_law_tree_here"] (pureSp sp_law_ends) (He.ga K "_law_ends") fd_law_ends := ⟨ok_law_ends (fun_of FD_law_ends) T, g_law_ends, FD_law_ends.kp, B_law_ends⟩
  have C_law_sum : Cal P w K mg base CX0 1 "_law_sum" ["_law_pair", "_law_pairs"] (pureSp sp_law_sum) (He.ga K "_law_sum") fd_law_sum := ⟨ok_law_sum (fun_of FD_law_sum) T, g_law_sum, FD_law_sum.kp, B_law_sum⟩
  have C_law_bound : Cal P w K mg base CX0 2 "_law_bound" ["_law_tree_here", "_law_ends_here", "_law_node", "_law_rule", "_law_z", "_law_h"] (pureSp sp_law_bound) (He.ga K "_law_bound") fd_law_bound := ⟨ok_law_bound (fun_of FD_law_bound) T C_law_sum, g_law_bound, FD_law_bound.kp, B_law_bound⟩
  have C_law_true : Cal P w K mg base CX0 3 "_law_true" ["_law_grammar", "_law_tree_here"] (pureSp sp_law_true) (He.ga K "_law_true") fd_law_true := ⟨ok_law_true (fun_of FD_law_true) T C_law_ends C_law_sum C_law_bound, g_law_true, FD_law_true.kp, B_law_true⟩
  have C_law_is_row : Cal P w K mg base CX0 1 "_law_is_row" ["_law_thing", "_law_many"] (pureSp sp_law_is_row) (He.ga K "_law_is_row") fd_law_is_row := ⟨ok_law_is_row (fun_of FD_law_is_row) T, g_law_is_row, FD_law_is_row.kp, B_law_is_row⟩
  have C_law_judged : Cal P w K mg base CX0 3 "_law_judged" ["_law_grammar", "_law_tree_here", "_law_thing"] (pureSp sp_law_judged) (He.ga K "_law_judged") fd_law_judged := ⟨ok_law_judged (fun_of FD_law_judged) T C_law_is_row C_law_ends C_law_sum C_law_bound, g_law_judged, FD_law_judged.kp, B_law_judged⟩
  have C_law_same : Cal P w K mg base CX0 1 "_law_same" ["_law_told", "_law_due"] (pureSp sp_law_same) (He.ga K "_law_same") fd_law_same := ⟨ok_law_same (fun_of FD_law_same) T, g_law_same, FD_law_same.kp, B_law_same⟩
  have H_law_same : CalH P w K mg base 1 "_law_same" ["_law_told", "_law_due"] sp_law_same (He.ga K "_law_same") fd_law_same := ⟨okH_law_same (fun_of FD_law_same) T, g_law_same, FD_law_same.kp, B_law_same⟩
  have C_law_right : Cal P w K mg base CX0 7 "_law_right" ["_law_grammar", "_law_tree_here", "_law_thing"] (pureSp sp_law_right) (He.ga K "_law_right") fd_law_right := ⟨ok_law_right (fun_of FD_law_right) T C_law_judged C_lets_floors C_law_same T_InvalidPaper H_law_same, g_law_right, FD_law_right.kp, B_law_right⟩
  have C_law_bent : Cal P w K mg base CX0 2 "_law_bent" ["_law_tape", "_law_grammar", "_law_sheet"] (memSp sp_law_bent) (He.ga K "_law_bent") fd_law_bent := ⟨ok_law_bent (fun_of FD_law_bent) T C_law_pick, g_law_bent, FD_law_bent.kp, B_law_bent⟩
  have C_law_drawn : Cal P w K mg base CX0 2 "_law_drawn" ["_law_tape", "_law_grammar", "_law_tree_here"] (memSp sp_law_drawn) (He.ga K "_law_drawn") fd_law_drawn := ⟨ok_law_drawn (fun_of FD_law_drawn) T C_law_pick, g_law_drawn, FD_law_drawn.kp, B_law_drawn⟩
  have C_law_no_sheet : Cal P w K mg base CX0 2 "_law_no_sheet" ["_law_tape", "_law_sheet"] (memSp sp_law_no_sheet) (He.ga K "_law_no_sheet") fd_law_no_sheet := ⟨ok_law_no_sheet (fun_of FD_law_no_sheet) T C_law_pick, g_law_no_sheet, FD_law_no_sheet.kp, B_law_no_sheet⟩
  obtain ⟨oc, od, dV, kV, doc, pm, an, cdv, ct, osl, efd, lk, hcd, hD, hK⟩ := FD_law.ex
  obtain ⟨c', hc'⟩ := He.codeIn_ref hcd
  have hfd : fd_law.code = .ref cc := by
    have h1 : fd_law.code = .ref c' := by rw [efd]; exact hc'
    have h2 := He.codeOf_eq (p := lawD) lk h1
    rw [hcc] at h2
    rw [h1, h2]
  exact ok_law (fun_of FD_law) hfd TB T (fun_of FD_law_refused) g_law_refused B_law_refused H_law_same (fun w Qd Ed h => ⟨.str w, rfl, rfl, Nat.le_of_ble_eq_true rfl, h⟩) (fun Qd Ed h => ⟨.int (-1), rfl, rfl, Nat.le_of_ble_eq_true rfl, h⟩) T_NotUsable C_law_trim C_law_free C_law_tree C_law_true C_floors_of C_law_same C_law_judged C_lets_floors C_law_right C_law_bent C_law_pick C_law_drawn C_law_no_sheet H_law_same R_floors_of R_lets_floors
/-- the law's script, as it is handed over -/
theorem law_start (hn : noLst K = true) {H : Hp} {a P0 : Addr} {ns : List Int} {E : XK} (hl : ns.length ≤ 63) (hP : H P0 = some (.tbl #[])) (hS : SqL K H a (ns.map V.int)) : memSp (sp_law P0) [.ref a] H (fun v _ => v = .bl true) E := by
  have dv : ∀ (HI : Hp) (ns : List Int), DVs HI (ns.map V.int) (ns.map fun i => D.dat (.int i)) := by
    intro HI ns
    induction ns with
    | nil => exact .nil
    | cons i ns ih => exact .cons (Dq.int i) ih
  rcases hS with h | ⟨o, its, n, lk, hc, _⟩
  · have aP : a ≠ P0 := fun e => by
      rw [e] at h
      rcases h with h | ⟨o, h⟩
      · rw [hP] at h; cases h
      · rw [hP] at h; cases h
    obtain ⟨mo, hmo, hscr⟩ : ∃ mo : MO, (∀ HI, RepO HI H a mo) ∧ IsScr ns (some mo) := by
      rcases h with h | ⟨o, h⟩
      · exact ⟨.lst (ns.map fun i => D.dat (.int i)), fun HI => ⟨_, h, dv HI ns⟩, .inr rfl⟩
      · exact ⟨.frz (ns.map fun i => D.dat (.int i)), fun HI => ⟨o, _, h, dv HI ns⟩, .inl rfl⟩
    have rep : RepM (fun _ => false) (fun b => if b = a then some mo else if b = P0 then some (.cod qLam) else none) H := by
      refine ⟨fun b o e => ?_, fun b e => by cases e⟩
      by_cases h1 : b = a
      · rw [if_pos h1] at e; cases e
        rw [h1]; exact hmo _
      · rw [if_neg h1] at e
        by_cases h2 : b = P0
        · rw [if_pos h2] at e; cases e
          rw [h2]
          exact ⟨#[], hP, by trivial, fun pos cv hc => by cases hc⟩
        · rw [if_neg h2] at e; cases e
    refine ⟨fun _ => false, _, [.ref a], fun d _ => d = .dat (.bool true), rep, .cons rfl .nil, ⟨a, ns, rfl, ?_, by omega, ?_, fun _ => rfl⟩, fun d M' v H' g m r e => ?_⟩
    · show IsScr ns (if a = a then some mo else _)
      rw [if_pos rfl]; exact hscr
    · show (if P0 = a then some mo else if P0 = P0 then some (MO.cod qLam) else none) = _
      rw [if_neg aP.symm, if_pos rfl]
    · have e' : d = .dat (.bool true) := e
      subst e'
      have r' : Dq (Imm M' (fun _ => false) H') v (.bool true) := r
      cases r'
      rfl
  · exact (noLst_ok hn lk hc).elim
end
end DL
set_option Elab.async false
set_option linter.all false
set_option maxRecDepth 100000
set_option maxHeartbeats 0
namespace DL
open PySem PySem.Spec PyProof.Rows L2
theorem runT (w : World) : HandSHeadRun.RunEqI RwT qT hkT obT 20000 looseT w := by
  unfold HandSHeadRun.RunEqI
  kernel_rfl
/-- the law's def, its code's table, the script: all that the end asks for -/
theorem law_at {w : World} {mg : Str → Option Value} {fa : Addr} {h : Heap} (Y : hkT.says w h) (G : h.Ns mainGlobals mg) (hmg : mg ("law" : Str) = some (.ref fa)) : ∃ K : PySem.W.Frag, K.In h ∧ LamX.LawAtS PySem.Challenge.rw_stoodthere_k63_whole_floors w K CX0 9 63 "_law_script" mg fa h := by
  obtain ⟨K, KX, c⟩ := Y
  refine ⟨K, KX, ?_⟩
  have e := hmg.symm.trans (He.glo_ok KX G (c.t.d.fact 37 (f := .glo "law") rfl))
  cases e
  obtain ⟨fd, FD⟩ := c.t.d.def_ 37 (d := df_law) rfl
  have hn : noLst K = true := by
    obtain ⟨_, ce⟩ := Bool.and_eq_true_iff.mp c.more
    obtain ⟨_, ce⟩ := Bool.and_eq_true_iff.mp ce
    exact (Bool.and_eq_true_iff.mp ce).1
  have lm : lawD ∈ [lawD] := List.mem_singleton.mpr rfl
  refine ⟨fd, [He.cT K lawD], memSp (sp_law (He.cT K lawD).2), fun p hp => ?_, fun p hp => ?_, fun p hp => ?_, fun s u => FD.bindsA (ps := ["_law_script"]) (fun _ _ _ _ _ _ us hl => match us, hl with | [_], _ => rfl) s [u] rfl, fun H a ns hl _ hT hS => ?_, fun base KB GB hTB => ?_⟩
  · rw [List.mem_singleton.mp hp]; exact c.empty lawD lm
  · rw [List.mem_singleton.mp hp]; exact c.out lawD lm
  · rw [List.mem_singleton.mp hp]; exact PySem.W.codeHd_of_K KX (c.hd lawD lm)
  · exact law_start hn hl (hT _ (List.mem_singleton.mpr rfl)) hS
  · exact all_ok KB GB c.t.d c.more (hTB _ (List.mem_singleton.mpr rfl)) rfl FD
end DL
open PySem PySem.W PySem.Calls PyProof.Rows
theorem PySem.Challenge.cw_stoodthere_k63_whole_floors_holds : PySem.Challenge.rw_stoodthere_k63_whole_floors.Holds := by
  w_on; o_law
  refine HandSHeadRun.head_imp (r := OpenLaw.row PySem.Challenge.rw_stoodthere_k63_whole_floors) (q := DL.qT) (H := DL.hkT) (ob := DL.obT) (M := 20000) (loose := DL.looseT) (d := HandSHeadRun.topDef (OpenLaw.row PySem.Challenge.rw_stoodthere_k63_whole_floors).prog 57) (kwd := []) DL.obT_eq
    DL.runT (by kernel_rfl) (by kernel_rfl) (by kernel_rfl) (by rfl) (by first | assumption | decide +kernel) (by decide +kernel) ⟨rfl, rfl, rfl, rfl, rfl, by decide +kernel⟩ ?hw ?hc
  case hw => w_witness2
  case hc =>
    refine LamX.walk_ofTsE (l := PySem.Challenge.rw_stoodthere_k63_whole_floors) (n := 63) (k := 9) (x := "_law_script") (CX := fun _ => L2.CX0) rfl (by decide) (by kernel_rfl) ⟨rfl, by decide, by decide⟩ ?F (fun _ _ _ _ _ z => z)
    intro w mg fa h Y G hmg0
    have hmg : mg ("law" : PySem.Str) = some (.ref fa) := by
      have e : (HandSHeadRun.topDef (OpenLaw.row PySem.Challenge.rw_stoodthere_k63_whole_floors).prog 57).name = ("law" : PySem.Str) := by kernel_rfl
      rw [← e]
      exact hmg0
    exact DL.law_at Y G hmg
