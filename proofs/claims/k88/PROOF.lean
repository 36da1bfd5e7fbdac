import PyProof.Rows.All
import Wide.All
import OpenK.AllK
import Wide.FinOn
import HandS.ForExc
import HandS.Comp
import HandS.Dict
import HandS.Iter
import HandS.Text
import KE.KDictKeyed
import KE.KeyNested
import HandS.NoneIn
import HandS.TupAny
import HandS.IsInst
import PyProof.StrBlock2
import PyProof.ListStr
import HandS.DictComp
import HandS.WordsExc
import KE.SortData
import KE.KDictCopyH
import KE.KDictSum
import HandS.SetTxt0
import HandS.Set
import HandS.SetFor
import HandS.Strs
import HandS.TryOnly
import KE.GoesEnum
import KE.DataCmp
import PySem.Challenge.RW_seamsight_k88_whole_margins
set_option Elab.async false
set_option linter.all false
set_option maxRecDepth 100000
set_option maxHeartbeats 2000000
/-! DLCore: a data layer over HandS. Values are told as data (D): tuples, frozen lists and frozen dicts stand inline, lists and dicts and instances that may still change stand in a store (List MO) and are named by their number. -/
namespace DL
open PySem L2

/-! ### data -/
inductive D where
  | non | bl (b : Bool) | int (i : Int) | str (x : Str)
  | tup (ds : List D) | lst (ds : List D)
  | dk (kvs : List (Key × D)) | dn (kvs : List (NestedKey × D))
  | ref (n : Nat)
  | ty (n : String)
  deriving Inhabited
/-- what may change -/
inductive MO where
  | lst (ds : List D) | dk (kvs : List (Key × D)) | dn (kvs : List (NestedKey × D)) | ins (C : Addr) (fs : List (Str × D))
abbrev Store := List MO
abbrev Env' := List (Option D)

mutual
def D.bel (n : Nat) : D → Prop
  | .non => True | .bl _ => True | .int _ => True | .str _ => True | .ty _ => True
  | .tup ds => belows n ds
  | .lst ds => belows n ds
  | .dk kvs => belowK n kvs
  | .dn kvs => belowN n kvs
  | .ref k => k < n
def belows (n : Nat) : List D → Prop
  | [] => True
  | d :: r => d.bel n ∧ belows n r
def belowK (n : Nat) : List (Key × D) → Prop
  | [] => True
  | p :: r => p.2.bel n ∧ belowK n r
def belowN (n : Nat) : List (NestedKey × D) → Prop
  | [] => True
  | p :: r => p.2.bel n ∧ belowN n r
end
theorem belows_iff {n : Nat} {ds : List D} : belows n ds ↔ ∀ d ∈ ds, d.bel n := by
  induction ds with
  | nil => simp [belows]
  | cons d r ih => simp [belows, ih]
theorem belowK_iff {n : Nat} {ds : List (Key × D)} : belowK n ds ↔ ∀ d ∈ ds, d.2.bel n := by
  induction ds with
  | nil => simp [belowK]
  | cons d r ih => simp [belowK, ih]
theorem belowN_iff {n : Nat} {ds : List (NestedKey × D)} : belowN n ds ↔ ∀ d ∈ ds, d.2.bel n := by
  induction ds with
  | nil => simp [belowN]
  | cons d r ih => simp [belowN, ih]
def MO.bel (n : Nat) : MO → Prop
  | .lst ds => belows n ds
  | .dk kvs => belowK n kvs
  | .dn kvs => belowN n kvs
  | .ins _ fs => ∀ p ∈ fs, p.2.bel n

mutual
def kD : NestedKey → D
  | .none => .non
  | .num i => .int i
  | .text x => .str x
  | .tup ks => .tup (kDs ks)
def kDs : List NestedKey → List D
  | [] => []
  | k :: r => kD k :: kDs r
end
theorem kDs_eq (ks : List NestedKey) : kDs ks = ks.map kD := by
  induction ks with
  | nil => rfl
  | cons k r ih => rw [kDs, ih]; rfl

/-! ### worlds -/
structure Bg where
  P : Program
  wd : World
  K : PySem.W.Frag
/-- F: what is frozen; as: where the store's objects stand; fr: what others hold meanwhile -/
structure Wd where
  F : Hp
  as : List Addr
  fr : List (Addr × HO)
structure Wd.Le (w w' : Wd) : Prop where
  F : ∀ a o, w.F a = some o → w'.F a = some o
  as : w.as <+: w'.as
  fr : w'.fr = w.fr
theorem Wd.Le.refl (w : Wd) : w.Le w := ⟨fun _ _ h => h, List.prefix_rfl, rfl⟩
theorem Wd.Le.trans {a b c : Wd} (h : a.Le b) (g : b.Le c) : a.Le c := ⟨fun x o e => g.F x o (h.F x o e), h.as.trans g.as, g.fr.trans h.fr⟩

/-- the entries of a dict with nested keys, at a -/
def dnP (b : Bg) (a : Addr) (ob : Obj) (xs : List (NestedKey × Addr × Value)) (h : Heap) : Prop :=
  h.get? a = some ob ∧ ∃ es ep, ob.ExactDict ∧ ob.data = .dict es ep ∧ es.toList = xs.map (entryOfKey (nestedKind b.P b.wd)) ∧ (xs.map (·.1)).Nodup ∧ xs.length ≤ sizeLine ∧ (a == sysModules) = false ∧ ∀ x ∈ xs, x.1.depth ≤ 8
def dnO (b : Bg) (a : Addr) (ob : Obj) (xs : List (NestedKey × Addr × Value)) : HO := .ext (dnP b a ob xs)

theorem rd_mono {F F' : Hp} (h : ∀ a o, F a = some o → F' a = some o) {a : Addr} {u : HO} (r : Rd F a u) : Rd F' a u := by
  rcases r with r | ⟨o, r⟩
  · exact .inl (h _ _ r)
  · exact .inr ⟨o, h _ _ r⟩
theorem sqL_mono {K : PySem.W.Frag} {F F' : Hp} (h : ∀ a o, F a = some o → F' a = some o) {a : Addr} {xs : List V} (r : SqL K F a xs) : SqL K F' a xs := by
  rcases r with r | r
  · exact .inl (rd_mono h r)
  · exact .inr r
theorem sqT_mono {K : PySem.W.Frag} {F F' : Hp} (h : ∀ a o, F a = some o → F' a = some o) {a : Addr} {xs : List V} (r : SqT K F a xs) : SqT K F' a xs := by
  rcases r with r | r
  · exact .inl (rd_mono h r)
  · exact .inr r

inductive Rel (b : Bg) (w : Wd) : D → V → Prop
  | non : Rel b w .non .non
  | bl (x : Bool) : Rel b w (.bl x) (.bl x)
  | int (i : Int) : Rel b w (.int i) (.int i)
  | str (x : Str) : Rel b w (.str x) (.str x)
  | tup {a : Addr} {vs : List V} {ds : List D} : SqT b.K w.F a vs → ds.length = vs.length → (∀ (i : Nat) (d : D) (v : V), ds[i]? = some d → vs[i]? = some v → Rel b w d v) → Rel b w (.tup ds) (.ref a)
  | lst {a : Addr} {vs : List V} {ds : List D} : SqL b.K w.F a vs → ds.length = vs.length → (∀ (i : Nat) (d : D) (v : V), ds[i]? = some d → vs[i]? = some v → Rel b w d v) → Rel b w (.lst ds) (.ref a)
  | dk {a : Addr} {kvs : List (Key × V)} {ds : List (Key × D)} : Rd w.F a (.dK kvs) → ds.map (·.1) = kvs.map (·.1) → (∀ (i : Nat) (d : Key × D) (v : Key × V), ds[i]? = some d → kvs[i]? = some v → Rel b w d.2 v.2) → Rel b w (.dk ds) (.ref a)
  | dn {a : Addr} {ob : Obj} {xs : List (NestedKey × Addr × Value)} {f : Nat → V} {ds : List (NestedKey × D)} : w.F a = some (dnO b a ob xs) → ds.map (·.1) = xs.map (·.1) → (∀ (i : Nat) (x : NestedKey × Addr × Value), xs[i]? = some x → RelV (f i) x.2.2) →
      (∀ (i : Nat) (x : NestedKey × Addr × Value), xs[i]? = some x → Rel b w (kD x.1) (.ref x.2.1)) → (∀ (i : Nat) (d : NestedKey × D), ds[i]? = some d → Rel b w d.2 (f i)) → Rel b w (.dn ds) (.ref a)
  | ref {n : Nat} {a : Addr} : w.as[n]? = some a → Rel b w (.ref n) (.ref a)
  | ty (n : String) : Rel b w (.ty n) (.ty n)
def RelL (b : Bg) (w : Wd) (ds : List D) (vs : List V) : Prop := ds.length = vs.length ∧ ∀ (i : Nat) (d : D) (v : V), ds[i]? = some d → vs[i]? = some v → Rel b w d v

theorem pre_get {α : Type} {l l' : List α} (h : l <+: l') {n : Nat} {a : α} (e : l[n]? = some a) : l'[n]? = some a := by
  obtain ⟨r, rfl⟩ := h
  rw [List.getElem?_append_left (List.getElem?_eq_some_iff.mp e).1]
  exact e
/-- more is frozen, the store has grown (whatever others hold) -/
structure Wd.Le0 (w w' : Wd) : Prop where
  F : ∀ a o, w.F a = some o → w'.F a = some o
  as : w.as <+: w'.as
theorem Wd.Le.le0 {w w' : Wd} (h : w.Le w') : w.Le0 w' := ⟨h.F, h.as⟩
theorem Wd.Le0.trans {a b c : Wd} (h : a.Le0 b) (g : b.Le0 c) : a.Le0 c := ⟨fun x o e => g.F x o (h.F x o e), h.as.trans g.as⟩
theorem Wd.Le0.refl (a : Wd) : a.Le0 a := ⟨fun _ _ h => h, List.prefix_rfl⟩
theorem Rel.mono0 {b : Bg} {w w' : Wd} (h : w.Le0 w') {d : D} {v : V} (r : Rel b w d v) : Rel b w' d v := by
  induction r with
  | non => exact .non
  | bl x => exact .bl x
  | int i => exact .int i
  | str x => exact .str x
  | tup s l _ ih => exact .tup (sqT_mono h.F s) l ih
  | lst s l _ ih => exact .lst (sqL_mono h.F s) l ih
  | dk s l _ ih => exact .dk (rd_mono h.F s) l ih
  | dn s l k _ _ ih1 ih2 => exact .dn (h.F _ _ s) l k ih1 ih2
  | ref e => exact .ref (pre_get h.as e)
  | ty n => exact .ty n
theorem Rel.mono {b : Bg} {w w' : Wd} (h : w.Le w') {d : D} {v : V} (r : Rel b w d v) : Rel b w' d v := r.mono0 h.le0
theorem RelL.mono0 {b : Bg} {w w' : Wd} (h : w.Le0 w') {ds : List D} {vs : List V} (r : RelL b w ds vs) : RelL b w' ds vs := ⟨r.1, fun i d v e1 e2 => (r.2 i d v e1 e2).mono0 h⟩
theorem RelL.mono {b : Bg} {w w' : Wd} (h : w.Le w') {ds : List D} {vs : List V} (r : RelL b w ds vs) : RelL b w' ds vs := ⟨r.1, fun i d v e1 e2 => (r.2 i d v e1 e2).mono h⟩
theorem RelL.nil {b : Bg} {w : Wd} : RelL b w [] [] := ⟨rfl, fun i d v e => by simp at e⟩
theorem RelL.cons {b : Bg} {w : Wd} {d : D} {v : V} {ds : List D} {vs : List V} (r : Rel b w d v) (rs : RelL b w ds vs) : RelL b w (d :: ds) (v :: vs) := by
  refine ⟨by simp [rs.1], fun i d' v' e1 e2 => ?_⟩
  cases i with
  | zero =>
    simp at e1 e2
    subst e1; subst e2
    exact r
  | succ i =>
    simp at e1 e2
    exact rs.2 i d' v' e1 e2
theorem RelL.append {b : Bg} {w : Wd} {ds es : List D} {vs us : List V} (r : RelL b w ds vs) (q : RelL b w es us) : RelL b w (ds ++ es) (vs ++ us) := by
  refine ⟨by simp [r.1, q.1], fun i d v e1 e2 => ?_⟩
  by_cases hi : i < ds.length
  · rw [List.getElem?_append_left hi] at e1
    rw [List.getElem?_append_left (by rw [← r.1]; exact hi)] at e2
    exact r.2 i d v e1 e2
  · rw [List.getElem?_append_right (Nat.le_of_not_lt hi)] at e1
    rw [List.getElem?_append_right (by rw [← r.1]; exact Nat.le_of_not_lt hi), ← r.1] at e2
    exact q.2 _ d v e1 e2
theorem RelL.get {b : Bg} {w : Wd} {ds : List D} {vs : List V} (r : RelL b w ds vs) {i : Nat} {d : D} (e : ds[i]? = some d) : ∃ v, vs[i]? = some v ∧ Rel b w d v := by
  have hi : i < vs.length := by rw [← r.1]; exact (List.getElem?_eq_some_iff.mp e).1
  exact ⟨vs[i], List.getElem?_eq_getElem hi, r.2 i d _ e (List.getElem?_eq_getElem hi)⟩
theorem RelL.take {b : Bg} {w : Wd} {ds : List D} {vs : List V} (n : Nat) (r : RelL b w ds vs) : RelL b w (ds.take n) (vs.take n) := by
  refine ⟨by simp [r.1], fun i d v e1 e2 => ?_⟩
  rw [List.getElem?_take] at e1 e2
  split at e1
  · rename_i h
    rw [if_pos h] at e2
    exact r.2 i d v e1 e2
  · cases e1
theorem RelL.drop {b : Bg} {w : Wd} {ds : List D} {vs : List V} (n : Nat) (r : RelL b w ds vs) : RelL b w (ds.drop n) (vs.drop n) := by
  refine ⟨by simp [r.1], fun i d v e1 e2 => ?_⟩
  rw [List.getElem?_drop] at e1 e2
  exact r.2 _ d v e1 e2
theorem RelL.set {b : Bg} {w : Wd} {ds : List D} {vs : List V} {d : D} {v : V} (n : Nat) (r : RelL b w ds vs) (q : Rel b w d v) : RelL b w (ds.set n d) (vs.set n v) := by
  refine ⟨by simp [r.1], fun i d' v' e1 e2 => ?_⟩
  rw [List.getElem?_set] at e1 e2
  by_cases hn : n = i
  · subst hn
    rw [if_pos rfl] at e1 e2
    split at e1
    · rename_i h
      rw [if_pos (by rw [← r.1]; exact h)] at e2
      cases e1; cases e2
      exact q
    · cases e1
  · rw [if_neg hn] at e1 e2
    exact r.2 i d' v' e1 e2

/-! ### what stands in a cell -/
inductive CellR (b : Bg) (w : Wd) (a : Addr) : MO → HO → Prop
  | lst {ds : List D} {vs : List V} : RelL b w ds vs → CellR b w a (.lst ds) (.lst vs)
  | dk {ds : List (Key × D)} {kvs : List (Key × V)} : ds.map (·.1) = kvs.map (·.1) → (∀ (i : Nat) (d : Key × D) (v : Key × V), ds[i]? = some d → kvs[i]? = some v → Rel b w d.2 v.2) → CellR b w a (.dk ds) (.dK kvs)
  | dn {ob : Obj} {xs : List (NestedKey × Addr × Value)} {f : Nat → V} {ds : List (NestedKey × D)} : ds.map (·.1) = xs.map (·.1) → (∀ (i : Nat) (x : NestedKey × Addr × Value), xs[i]? = some x → RelV (f i) x.2.2) →
      (∀ (i : Nat) (x : NestedKey × Addr × Value), xs[i]? = some x → Rel b w (kD x.1) (.ref x.2.1)) → (∀ (i : Nat) (d : NestedKey × D), ds[i]? = some d → Rel b w d.2 (f i)) → CellR b w a (.dn ds) (dnO b a ob xs)
  | ins {C dx : Addr} {ds : List (Str × D)} {fs : List (Str × V)} : ds.map (·.1) = fs.map (·.1) → (∀ (i : Nat) (d : Str × D) (v : Str × V), ds[i]? = some d → fs[i]? = some v → Rel b w d.2 v.2) → CellR b w a (.ins C ds) (.ins C dx fs)
theorem CellR.mono0 {b : Bg} {w w' : Wd} (h : w.Le0 w') {a : Addr} {o : MO} {u : HO} (r : CellR b w a o u) : CellR b w' a o u := by
  cases r with
  | lst q => exact .lst (q.mono0 h)
  | dk e q => exact .dk e fun i d v e1 e2 => (q i d v e1 e2).mono0 h
  | dn e k q1 q2 => exact .dn e k (fun i x e => (q1 i x e).mono0 h) fun i d e1 => (q2 i d e1).mono0 h
  | ins e q => exact .ins e fun i d v e1 e2 => (q i d v e1 e2).mono0 h
theorem CellR.mono {b : Bg} {w w' : Wd} (h : w.Le w') {a : Addr} {o : MO} {u : HO} (r : CellR b w a o u) : CellR b w' a o u := r.mono0 h.le0
structure RM (b : Bg) (w : Wd) (M : Store) (H : Hp) : Prop where
  sub : ∀ a o, w.F a = some o → H a = some o
  len : w.as.length = M.length
  nd : w.as.Nodup
  cell : ∀ (n : Nat) (a : Addr) (o : MO), w.as[n]? = some a → M[n]? = some o → w.F a = none ∧ ∃ u, H a = some u ∧ CellR b w a o u
  fr : ∀ p ∈ w.fr, H p.1 = some p.2 ∧ w.F p.1 = none ∧ p.1 ∉ w.as
def EnvR (b : Bg) (w : Wd) (ρ : Env') (σ : St) : Prop := ρ.length = σ.length ∧ ∀ (i : Nat) (d : D), ρ[i]? = some (some d) → ∃ v, σ[i]? = some (some v) ∧ Rel b w d v
structure RS (b : Bg) (w : Wd) (ρ : Env') (M : Store) (σ : St) (H : Hp) : Prop where
  m : RM b w M H
  e : EnvR b w ρ σ
theorem EnvR.mono0 {b : Bg} {w w' : Wd} (h : w.Le0 w') {ρ : Env'} {σ : St} (r : EnvR b w ρ σ) : EnvR b w' ρ σ := ⟨r.1, fun i d e => let ⟨v, e1, q⟩ := r.2 i d e; ⟨v, e1, q.mono0 h⟩⟩
theorem EnvR.mono {b : Bg} {w w' : Wd} (h : w.Le w') {ρ : Env'} {σ : St} (r : EnvR b w ρ σ) : EnvR b w' ρ σ := ⟨r.1, fun i d e => let ⟨v, e1, q⟩ := r.2 i d e; ⟨v, e1, q.mono h⟩⟩
theorem EnvR.set {b : Bg} {w : Wd} {ρ : Env'} {σ : St} (r : EnvR b w ρ σ) {i : Nat} {d : D} {v : V} (q : Rel b w d v) : EnvR b w (ρ.set i (some d)) (σ.set i (some v)) := by
  refine ⟨by simp [r.1], fun j d' e => ?_⟩
  rw [List.getElem?_set] at e ⊢
  by_cases hn : i = j
  · subst hn
    rw [if_pos rfl] at e ⊢
    split at e
    · rename_i h
      rw [if_pos (by rw [← r.1]; exact h)]
      cases e
      exact ⟨v, rfl, q⟩
    · cases e
  · rw [if_neg hn] at e ⊢
    exact r.2 j d' e
theorem EnvR.forget {b : Bg} {w : Wd} {ρ ρ' : Env'} {σ : St} (r : EnvR b w ρ σ) (hl : ρ'.length = ρ.length) (h : ∀ (i : Nat) (d : D), ρ'[i]? = some (some d) → ρ[i]? = some (some d)) : EnvR b w ρ' σ :=
  ⟨hl.trans r.1, fun i d e => r.2 i d (h i d e)⟩

/-- a new object, frozen at once -/
def Wd.froz (w : Wd) (p : Addr) (o : HO) : Wd := ⟨upd w.F p o, w.as, w.fr⟩
theorem Wd.froz_le {w : Wd} {p : Addr} {o : HO} (h : w.F p = none) : w.Le (w.froz p o) := ⟨fun a u e => by
  show upd w.F p o a = some u
  rw [upd_ne (ne_of_none e h)]
  exact e, List.prefix_rfl, rfl⟩
theorem RM.nF {b : Bg} {w : Wd} {M : Store} {H : Hp} (r : RM b w M H) {p : Addr} (h : H p = none) : w.F p = none := by
  cases q : w.F p with
  | none => rfl
  | some o => rw [r.sub p o q] at h; cases h
theorem RM.nas {b : Bg} {w : Wd} {M : Store} {H : Hp} (r : RM b w M H) {p : Addr} (h : H p = none) : p ∉ w.as := fun hp => by
  obtain ⟨n, hn, e⟩ := List.mem_iff_getElem.mp hp
  have hm : n < M.length := by rw [← r.len]; exact hn
  obtain ⟨_, u, e1, _⟩ := r.cell n p M[n] (by rw [List.getElem?_eq_getElem hn, e]) (List.getElem?_eq_getElem hm)
  rw [e1] at h; cases h
theorem RM.nfr {b : Bg} {w : Wd} {M : Store} {H : Hp} (r : RM b w M H) {p : Addr} (h : H p = none) : ∀ q ∈ w.fr, q.1 ≠ p := fun q hq e => by
  have := (r.fr q hq).1
  rw [e, h] at this
  cases this
theorem RM.froz {b : Bg} {w : Wd} {M : Store} {H : Hp} (r : RM b w M H) {p : Addr} {o : HO} (h : H p = none) : RM b (w.froz p o) M (upd H p o) := by
  have hF := r.nF h
  have hle : w.Le (w.froz p o) := Wd.froz_le hF
  refine ⟨fun a u e => ?_, r.len, r.nd, fun n a m e1 e2 => ?_, fun q hq => ?_⟩
  · have e : upd w.F p o a = some u := e
    by_cases ha : a = p
    · subst ha
      rw [upd_same] at e ⊢
      exact e
    · rw [upd_ne ha] at e ⊢
      exact r.sub a u e
  · obtain ⟨f, u, e3, c⟩ := r.cell n a m e1 e2
    have ha : a ≠ p := ne_of_none e3 h
    exact ⟨by show upd w.F p o a = none; rw [upd_ne ha]; exact f, u, by rw [upd_ne ha]; exact e3, c.mono hle⟩
  · obtain ⟨e1, e2, e3⟩ := r.fr q hq
    have ha : q.1 ≠ p := ne_of_none e1 h
    exact ⟨by rw [upd_ne ha]; exact e1, by show upd w.F p o q.1 = none; rw [upd_ne ha]; exact e2, e3⟩
/-- a new object in the store -/
def Wd.put (w : Wd) (p : Addr) : Wd := ⟨w.F, w.as ++ [p], w.fr⟩
theorem Wd.put_le {w : Wd} {p : Addr} : w.Le (w.put p) := ⟨fun _ _ h => h, List.prefix_append _ _, rfl⟩
theorem RM.put {b : Bg} {w : Wd} {M : Store} {H : Hp} (r : RM b w M H) {p : Addr} {o : HO} {m : MO} (h : H p = none) (c : CellR b (w.put p) p m o) : RM b (w.put p) (M ++ [m]) (upd H p o) := by
  have hle : w.Le (w.put p) := Wd.put_le
  refine ⟨fun a u e => ?_, by show (w.as ++ [p]).length = _; simp [r.len], ?_, fun n a m' e1 e2 => ?_, fun q hq => ?_⟩
  · have e : w.F a = some u := e
    have := r.sub a u e
    rw [upd_ne (ne_of_none this h)]
    exact this
  · show (w.as ++ [p]).Nodup
    rw [List.nodup_append]
    exact ⟨r.nd, by simp, fun a ha b hb e => by simp at hb; subst hb; subst e; exact r.nas h ha⟩
  · have e1 : (w.as ++ [p])[n]? = some a := e1
    by_cases hn : n < w.as.length
    · rw [List.getElem?_append_left hn] at e1
      rw [List.getElem?_append_left (by rw [← r.len]; exact hn)] at e2
      obtain ⟨f, u, e3, c'⟩ := r.cell n a m' e1 e2
      exact ⟨f, u, by rw [upd_ne (ne_of_none e3 h)]; exact e3, c'.mono hle⟩
    · rw [List.getElem?_append_right (Nat.le_of_not_lt hn)] at e1
      rw [List.getElem?_append_right (by rw [← r.len]; exact Nat.le_of_not_lt hn), ← r.len] at e2
      have hz : n - w.as.length = 0 := by
        have := (List.getElem?_eq_some_iff.mp e1).1
        simp at this
        omega
      rw [hz] at e1 e2
      simp at e1 e2
      subst e1; subst e2
      exact ⟨r.nF h, o, upd_same, c⟩
  · obtain ⟨e1, e2, e3⟩ := r.fr q hq
    have ha : q.1 ≠ p := ne_of_none e1 h
    exact ⟨by rw [upd_ne ha]; exact e1, e2, by show q.1 ∉ w.as ++ [p]; simp [e3, ha]⟩
/-- a cell is written -/
theorem RM.write {b : Bg} {w : Wd} {M : Store} {H : Hp} (r : RM b w M H) {n : Nat} {a : Addr} {o : HO} {m : MO} (e : w.as[n]? = some a) (c : CellR b w a m o) : RM b w (M.set n m) (upd H a o) := by
  have hn : n < w.as.length := (List.getElem?_eq_some_iff.mp e).1
  have hM : n < M.length := by rw [← r.len]; exact hn
  obtain ⟨fa, ua, ea, _⟩ := r.cell n a M[n] e (List.getElem?_eq_getElem hM)
  refine ⟨fun x u ex => ?_, by simp [r.len], r.nd, fun k x m' e1 e2 => ?_, fun q hq => ?_⟩
  · have hx : x ≠ a := fun z => by subst z; rw [fa] at ex; cases ex
    rw [upd_ne hx]
    exact r.sub x u ex
  · by_cases hk : k = n
    · subst hk
      rw [e] at e1; cases e1
      rw [List.getElem?_set_self hM] at e2; cases e2
      exact ⟨fa, o, upd_same, c⟩
    · rw [List.getElem?_set_ne (Ne.symm hk)] at e2
      obtain ⟨f, u, e3, c'⟩ := r.cell k x m' e1 e2
      have hx : x ≠ a := fun z => by
        subst z
        obtain ⟨h1, g1⟩ := List.getElem?_eq_some_iff.mp e
        obtain ⟨h2, g2⟩ := List.getElem?_eq_some_iff.mp e1
        exact hk ((List.getElem_inj r.nd).mp (g2.trans g1.symm))
      exact ⟨f, u, by rw [upd_ne hx]; exact e3, c'⟩
  · obtain ⟨e1, e2, e3⟩ := r.fr q hq
    have ha : q.1 ≠ a := fun z => e3 (by rw [z]; exact List.mem_of_getElem? e)
    exact ⟨by rw [upd_ne ha]; exact e1, e2, e3⟩

/-! ### forgetting and freezing -/
theorem at2 {α β : Type} {l : List α} {r : List β} (h : l.length = r.length) {i : Nat} {a : α} (e : l[i]? = some a) : ∃ c, r[i]? = some c := by
  have hi := (List.getElem?_eq_some_iff.mp e).1
  rw [h] at hi
  exact ⟨_, List.getElem?_eq_getElem hi⟩
theorem len_of_map {α β γ : Type} {f : α → γ} {g : β → γ} {l : List α} {r : List β} (h : l.map f = r.map g) : l.length = r.length := by
  have := congrArg List.length h
  simpa using this
theorem belows_get {n : Nat} {ds : List D} (h : belows n ds) {i : Nat} {d : D} (e : ds[i]? = some d) : d.bel n := belows_iff.mp h d (List.mem_of_getElem? e)
theorem Rel.bel {b : Bg} {w : Wd} {d : D} {v : V} (r : Rel b w d v) : d.bel w.as.length := by
  induction r with
  | non => trivial
  | bl x => trivial
  | int i => trivial
  | str x => trivial
  | tup s l q ih =>
    refine belows_iff.mpr fun d hd => ?_
    obtain ⟨i, e⟩ := List.getElem?_of_mem hd
    obtain ⟨v, ev⟩ := at2 l e
    exact ih i d v e ev
  | lst s l q ih =>
    refine belows_iff.mpr fun d hd => ?_
    obtain ⟨i, e⟩ := List.getElem?_of_mem hd
    obtain ⟨v, ev⟩ := at2 l e
    exact ih i d v e ev
  | dk s l q ih =>
    refine belowK_iff.mpr fun d hd => ?_
    obtain ⟨i, e⟩ := List.getElem?_of_mem hd
    obtain ⟨v, ev⟩ := at2 (len_of_map l) e
    exact ih i d v e ev
  | dn s l k q1 q2 ih1 ih2 =>
    refine belowN_iff.mpr fun d hd => ?_
    obtain ⟨i, e⟩ := List.getElem?_of_mem hd
    exact ih2 i d e
  | ref e => exact (List.getElem?_eq_some_iff.mp e).1
  | ty n => trivial
/-- what is below n is the same where the store is cut there and more is frozen -/
theorem Rel.cut {b : Bg} {w w' : Wd} (hF : ∀ a o, w.F a = some o → w'.F a = some o) {n : Nat} (ha : w'.as = w.as.take n) {d : D} {v : V} (r : Rel b w d v) (h : d.bel n) : Rel b w' d v := by
  induction r with
  | non => exact .non
  | bl x => exact .bl x
  | int i => exact .int i
  | str x => exact .str x
  | tup s l _ ih => exact .tup (sqT_mono hF s) l fun i d v e1 e2 => ih i d v e1 e2 (belows_get h e1)
  | lst s l _ ih => exact .lst (sqL_mono hF s) l fun i d v e1 e2 => ih i d v e1 e2 (belows_get h e1)
  | dk s l _ ih => exact .dk (rd_mono hF s) l fun i d v e1 e2 => ih i d v e1 e2 (belowK_iff.mp h d (List.mem_of_getElem? e1))
  | dn s l k _ _ ih1 ih2 =>
    refine .dn (hF _ _ s) l k (fun i x e => ih1 i x e ?_) fun i d e1 => ih2 i d e1 (belowN_iff.mp h d (List.mem_of_getElem? e1))
    exact kD_bel x.1
  | ref e =>
    refine .ref ?_
    have h : _ < n := h
    rw [ha, List.getElem?_take, if_pos h]
    exact e
  | ty n => exact .ty n
where
  kD_bel : ∀ (k : NestedKey) {n : Nat}, (kD k).bel n
    | .none, _ => by simp [kD, D.bel]
    | .num _, _ => by simp [kD, D.bel]
    | .text _, _ => by simp [kD, D.bel]
    | .tup ks, n => by
      rw [kD]
      show belows n (kDs ks)
      exact kDs_bel ks
  kDs_bel : ∀ (ks : List NestedKey) {n : Nat}, belows n (kDs ks)
    | [], _ => by simp [kDs, belows]
    | k :: r, n => by
      rw [kDs, belows]
      exact ⟨kD_bel k, kDs_bel r⟩

/-- d', where what stands from number n on in the store M is frozen -/
inductive Fz (M : Store) (n : Nat) : D → D → Prop
  | keep {d : D} : d.bel n → Fz M n d d
  | cl {k : Nat} {ds ds' : List D} : n ≤ k → M[k]? = some (.lst ds) → ds'.length = ds.length → (∀ (i : Nat) (d d' : D), ds[i]? = some d → ds'[i]? = some d' → Fz M n d d') → Fz M n (.ref k) (.lst ds')
  | cdk {k : Nat} {ds ds' : List (Key × D)} : n ≤ k → M[k]? = some (.dk ds) → ds'.map (·.1) = ds.map (·.1) → (∀ (i : Nat) (d d' : Key × D), ds[i]? = some d → ds'[i]? = some d' → Fz M n d.2 d'.2) → Fz M n (.ref k) (.dk ds')
  | cdn {k : Nat} {ds ds' : List (NestedKey × D)} : n ≤ k → M[k]? = some (.dn ds) → ds'.map (·.1) = ds.map (·.1) → (∀ (i : Nat) (d d' : NestedKey × D), ds[i]? = some d → ds'[i]? = some d' → Fz M n d.2 d'.2) → Fz M n (.ref k) (.dn ds')
  | tup {ds ds' : List D} : ds'.length = ds.length → (∀ (i : Nat) (d d' : D), ds[i]? = some d → ds'[i]? = some d' → Fz M n d d') → Fz M n (.tup ds) (.tup ds')
  | lst {ds ds' : List D} : ds'.length = ds.length → (∀ (i : Nat) (d d' : D), ds[i]? = some d → ds'[i]? = some d' → Fz M n d d') → Fz M n (.lst ds) (.lst ds')
/-- where the store is cut at n, all behind frozen -/
def Wd.cut (w : Wd) (H : Hp) (n : Nat) : Wd := ⟨fun a => match w.F a with | some o => some o | none => if a ∈ w.as.drop n then H a else none, w.as.take n, w.fr⟩
theorem Wd.cut_F {w : Wd} {H : Hp} {n : Nat} : ∀ a o, w.F a = some o → (w.cut H n).F a = some o := fun a o e => by
  show (match w.F a with | some o => some o | none => _) = _
  rw [e]
theorem Wd.cut_at {w : Wd} {H : Hp} {n k : Nat} {a : Addr} (hf : w.F a = none) (e : w.as[k]? = some a) (h : n ≤ k) : (w.cut H n).F a = H a := by
  show (match w.F a with | some o => some o | none => if a ∈ w.as.drop n then H a else none) = _
  rw [hf]
  have : a ∈ w.as.drop n := by
    refine List.mem_of_getElem? (i := k - n) ?_
    rw [List.getElem?_drop]
    rw [show n + (k - n) = k by omega]
    exact e
  rw [if_pos this]
theorem RM.cut {b : Bg} {w : Wd} {M1 G : Store} {H : Hp} (r : RM b w (M1 ++ G) H) (hb : ∀ (i : Nat) (o : MO), M1[i]? = some o → o.bel M1.length) : RM b (w.cut H M1.length) M1 H := by
  have hlen : w.as.length = M1.length + G.length := by rw [r.len, List.length_append]
  refine ⟨fun a o e => ?_, ?_, ?_, fun n a o e1 e2 => ?_, fun q hq => ?_⟩
  · have e : (match w.F a with | some o => some o | none => if a ∈ w.as.drop M1.length then H a else none) = some o := e
    cases q : w.F a with
    | some u =>
      simp only [q] at e
      cases e
      exact r.sub a _ q
    | none =>
      simp only [q] at e
      by_cases hm : a ∈ w.as.drop M1.length
      · rw [if_pos hm] at e
        exact e
      · rw [if_neg hm] at e
        cases e
  · show (w.as.take M1.length).length = _
    rw [List.length_take, hlen]; omega
  · exact List.Nodup.sublist (List.take_sublist _ _) r.nd
  · have e1 : (w.as.take M1.length)[n]? = some a := e1
    rw [List.getElem?_take] at e1
    split at e1
    · rename_i hn
      obtain ⟨f, u, e3, c⟩ := r.cell n a o e1 (by rw [List.getElem?_append_left hn]; exact e2)
      refine ⟨?_, u, e3, ?_⟩
      · show (match w.F a with | some o => some o | none => if a ∈ w.as.drop M1.length then H a else none) = none
        rw [f]
        refine if_neg fun hm => ?_
        obtain ⟨j, hj, ej⟩ := List.mem_iff_getElem.mp hm
        rw [List.getElem_drop] at ej
        obtain ⟨h1, g1⟩ := List.getElem?_eq_some_iff.mp e1
        have := (List.getElem_inj r.nd).mp (ej.trans g1.symm)
        omega
      · have hbo := hb n o e2
        have cutR : ∀ {d : D} {v : V}, Rel b w d v → d.bel M1.length → Rel b (w.cut H M1.length) d v := fun q h => q.cut Wd.cut_F rfl h
        cases c with
        | lst q => exact .lst ⟨q.1, fun i d v e1 e2 => cutR (q.2 i d v e1 e2) (belows_get hbo e1)⟩
        | dk e q => exact .dk e fun i d v e1 e2 => cutR (q i d v e1 e2) (belowK_iff.mp hbo d (List.mem_of_getElem? e1))
        | dn e k q1 q2 => exact .dn e k (fun i x e => cutR (q1 i x e) (Rel.cut.kD_bel x.1)) fun i d e1 => cutR (q2 i d e1) (belowN_iff.mp hbo d (List.mem_of_getElem? e1))
        | ins e q => exact .ins e fun i d v e1 e2 => cutR (q i d v e1 e2) (hbo d (List.mem_of_getElem? e1))
    · cases e1
  · obtain ⟨e1, e2, e3⟩ := r.fr q hq
    refine ⟨e1, ?_, fun hm => e3 (List.mem_of_mem_take hm)⟩
    show (match w.F q.1 with | some o => some o | none => if q.1 ∈ w.as.drop M1.length then H q.1 else none) = none
    rw [e2]
    exact if_neg fun hm => e3 (List.mem_of_mem_drop hm)
theorem Fz.sound {b : Bg} {w : Wd} {M : Store} {H : Hp} (r : RM b w M H) {n : Nat} {d d' : D} (z : Fz M n d d') : ∀ {v : V}, Rel b w d v → Rel b (w.cut H n) d' v := by
  have at_ : ∀ {α : Type} {l l' : List α}, l'.length = l.length → ∀ {i : Nat} {d' : α}, l'[i]? = some d' → ∃ d, l[i]? = some d := fun {α l l'} hl {i d'} e => by
    have hi : i < l.length := by rw [← hl]; exact (List.getElem?_eq_some_iff.mp e).1
    exact ⟨_, List.getElem?_eq_getElem hi⟩
  induction z with
  | keep h => exact fun q => q.cut Wd.cut_F rfl h
  | cl hk hM hl _ ih =>
    intro v q
    cases q with
    | ref e =>
      obtain ⟨f, u, e3, c⟩ := r.cell _ _ _ e hM
      cases c with
      | lst q =>
        refine .lst (.inl (.inl ((Wd.cut_at f e hk).trans e3))) (hl.trans q.1) fun i d' v e1 e2 => ?_
        obtain ⟨d, ed⟩ := at_ hl e1
        exact ih i d d' ed e1 (q.2 i d v ed e2)
  | cdk hk hM hl _ ih =>
    intro v q
    cases q with
    | ref e =>
      obtain ⟨f, u, e3, c⟩ := r.cell _ _ _ e hM
      cases c with
      | dk k q =>
        refine .dk (.inl ((Wd.cut_at f e hk).trans e3)) (hl.trans k) fun i d' v e1 e2 => ?_
        obtain ⟨d, ed⟩ := at_ (len_of_map hl) e1
        exact ih i d d' ed e1 (q i d v ed e2)
  | cdn hk hM hl _ ih =>
    intro v q
    cases q with
    | ref e =>
      obtain ⟨f, u, e3, c⟩ := r.cell _ _ _ e hM
      cases c with
      | dn k kv q1 q2 =>
        refine .dn ((Wd.cut_at f e hk).trans e3) (hl.trans k) kv (fun i x e => (q1 i x e).cut Wd.cut_F rfl (Rel.cut.kD_bel x.1)) fun i d' e1 => ?_
        obtain ⟨d, ed⟩ := at_ (len_of_map hl) e1
        exact ih i d d' ed e1 (q2 i d ed)
  | tup hl _ ih =>
    intro v q
    cases q with
    | tup s l q =>
      refine .tup (sqT_mono Wd.cut_F s) (hl.trans l) fun i d' v e1 e2 => ?_
      obtain ⟨d, ed⟩ := at_ hl e1
      exact ih i d d' ed e1 (q i d v ed e2)
  | lst hl _ ih =>
    intro v q
    cases q with
    | lst s l q =>
      refine .lst (sqL_mono Wd.cut_F s) (hl.trans l) fun i d' v e1 e2 => ?_
      obtain ⟨d, ed⟩ := at_ hl e1
      exact ih i d d' ed e1 (q i d v ed e2)
theorem CellR.bel {b : Bg} {w : Wd} {a : Addr} {o : MO} {u : HO} (c : CellR b w a o u) : o.bel w.as.length := by
  cases c with
  | lst q =>
    refine belows_iff.mpr fun d hd => ?_
    obtain ⟨i, e⟩ := List.getElem?_of_mem hd
    obtain ⟨v, _, r⟩ := q.get e
    exact r.bel
  | dk k q =>
    refine belowK_iff.mpr fun d hd => ?_
    obtain ⟨i, e⟩ := List.getElem?_of_mem hd
    obtain ⟨v, ev⟩ := at2 (len_of_map k) e
    exact (q i d v e ev).bel
  | dn k kv q1 q2 =>
    refine belowN_iff.mpr fun d hd => ?_
    obtain ⟨i, e⟩ := List.getElem?_of_mem hd
    exact (q2 i d e).bel
  | ins k q =>
    intro d hd
    obtain ⟨i, e⟩ := List.getElem?_of_mem hd
    obtain ⟨v, ev⟩ := at2 (len_of_map k) e
    exact (q i d v e ev).bel
theorem RM.bel {b : Bg} {w : Wd} {M : Store} {H : Hp} (r : RM b w M H) {i : Nat} {o : MO} (e : M[i]? = some o) : o.bel M.length := by
  have hi : i < w.as.length := by rw [r.len]; exact (List.getElem?_eq_some_iff.mp e).1
  obtain ⟨_, u, _, c⟩ := r.cell i w.as[i] o (List.getElem?_eq_getElem hi) e
  have := c.bel
  rw [r.len] at this
  exact this
mutual
theorem D.bel_mono {n m : Nat} (h : n ≤ m) : ∀ (d : D), d.bel n → d.bel m
  | .non, _ => trivial
  | .bl _, _ => trivial
  | .int _, _ => trivial
  | .str _, _ => trivial
  | .tup ds, q => belows_mono h ds q
  | .lst ds, q => belows_mono h ds q
  | .dk ds, q => belowK_mono h ds q
  | .dn ds, q => belowN_mono h ds q
  | .ref k, q => Nat.lt_of_lt_of_le q h
  | .ty _, _ => trivial
theorem belows_mono {n m : Nat} (h : n ≤ m) : ∀ (ds : List D), belows n ds → belows m ds
  | [], _ => trivial
  | d :: r, q => ⟨D.bel_mono h d q.1, belows_mono h r q.2⟩
theorem belowK_mono {n m : Nat} (h : n ≤ m) : ∀ (ds : List (Key × D)), belowK n ds → belowK m ds
  | [], _ => trivial
  | p :: r, q => ⟨D.bel_mono h p.2 q.1, belowK_mono h r q.2⟩
theorem belowN_mono {n m : Nat} (h : n ≤ m) : ∀ (ds : List (NestedKey × D)), belowN n ds → belowN m ds
  | [], _ => trivial
  | p :: r, q => ⟨D.bel_mono h p.2 q.1, belowN_mono h r q.2⟩
end
theorem MO.bel_mono {n m : Nat} (h : n ≤ m) {o : MO} (q : o.bel n) : o.bel m := by
  cases o with
  | lst ds => exact belows_mono h ds q
  | dk ds => exact belowK_mono h ds q
  | dn ds => exact belowN_mono h ds q
  | ins C fs => exact fun p hp => D.bel_mono h _ (q p hp)
/-- what a def hands back: as it is, or with what it made behind the store's first cells dropped or frozen -/
def RetOk (M0 : Store) (d : D) (M2 : Store) (Q : D → Store → Prop) : Prop :=
  Q d M2 ∨ ∃ d' M1 G, M2 = M1 ++ G ∧ M0.length ≤ M1.length ∧ (∀ (i : Nat) (o : MO), M1[i]? = some o → M0[i]? = some o ∨ o.bel M1.length) ∧ Fz M2 M1.length d d' ∧ Q d' M1
/-- the same at the end of a turn, for the names -/
def TurnOk (M0 : Store) (ρ : Env') (M2 : Store) (Q : Env' → Store → Prop) : Prop :=
  Q ρ M2 ∨ ∃ ρ' M1 G, M2 = M1 ++ G ∧ M0.length ≤ M1.length ∧ (∀ (i : Nat) (o : MO), M1[i]? = some o → M0[i]? = some o ∨ o.bel M1.length) ∧ ρ'.length = ρ.length ∧ (∀ (i : Nat) (d' : D), ρ'[i]? = some (some d') → ∃ d, ρ[i]? = some (some d) ∧ Fz M2 M1.length d d') ∧ Q ρ' M1
theorem cut_le {b : Bg} {w w' : Wd} {H : Hp} {n : Nat} (h : w.Le w') (hn : w.as.length ≤ n) : w.Le (w'.cut H n) := by
  refine ⟨fun a o e => Wd.cut_F a o (h.F a o e), ?_, h.fr⟩
  show w.as <+: w'.as.take n
  obtain ⟨r, e⟩ := h.as
  rw [← e, List.take_append, List.take_of_length_le hn]
  exact List.prefix_append _ _
theorem RetOk.sound {b : Bg} {w w' : Wd} {M0 M2 : Store} {H0 H : Hp} {d : D} {v : V} {Q : D → Store → Prop} (h : RetOk M0 d M2 Q) (r0 : RM b w M0 H0) (le : w.Le w') (r : RM b w' M2 H) (q : Rel b w' d v) :
    ∃ d' M1 w3, w.Le w3 ∧ RM b w3 M1 H ∧ Rel b w3 d' v ∧ Q d' M1 := by
  rcases h with h | ⟨d', M1, G, e, hl, hb, z, h⟩
  · exact ⟨d, M2, w', le, r, q, h⟩
  · subst e
    have hb' : ∀ (i : Nat) (o : MO), M1[i]? = some o → o.bel M1.length := fun i o e => (hb i o e).elim (fun e0 => MO.bel_mono hl (r0.bel e0)) id
    exact ⟨d', M1, w'.cut H M1.length, cut_le (b := b) le (by rw [r0.len]; exact hl), r.cut hb', z.sound r q, h⟩
theorem TurnOk.sound {b : Bg} {w w' : Wd} {M0 M2 : Store} {H0 H : Hp} {ρ : Env'} {σ : St} {Q : Env' → Store → Prop} (h : TurnOk M0 ρ M2 Q) (r0 : RM b w M0 H0) (le : w.Le w') (r : RS b w' ρ M2 σ H) :
    ∃ ρ' M1 w3, w.Le w3 ∧ RS b w3 ρ' M1 σ H ∧ Q ρ' M1 := by
  rcases h with h | ⟨ρ', M1, G, e, hl, hb, hρ, z, h⟩
  · exact ⟨ρ, M2, w', le, r, h⟩
  · subst e
    have hb' : ∀ (i : Nat) (o : MO), M1[i]? = some o → o.bel M1.length := fun i o e => (hb i o e).elim (fun e0 => MO.bel_mono hl (r0.bel e0)) id
    refine ⟨ρ', M1, w'.cut H M1.length, cut_le (b := b) le (by rw [r0.len]; exact hl), ⟨r.m.cut hb', hρ.trans r.e.1, fun i d' e => ?_⟩, h⟩
    obtain ⟨d, ed, zz⟩ := z i d' e
    obtain ⟨v, ev, q⟩ := r.e.2 i d ed
    exact ⟨v, ev, zz.sound r.m q⟩
end DL

set_option Elab.async false
set_option linter.all false
set_option maxRecDepth 100000
set_option maxHeartbeats 2000000
/-! DLRules: data readings, and HandS's rules told over them. -/
namespace DL
open PySem L2

/-! ### data readings -/
abbrev DK := D → Store → Prop
abbrev DTE := Env' → Store → DK → Prop
abbrev DTT := Env' → Store → (Bool → Store → Prop) → Prop
abbrev DTA := Env' → Store → (List D → Store → Prop) → Prop
structure DEnds where
  nx : Env' → Store → Prop
  rt : DK
  bk : Env' → Store → Prop := fun _ _ => False
  ct : Env' → Store → Prop := fun _ _ => False
abbrev DTS := DEnds → Env' → Store → Prop
abbrev DTG := D → Env' → Store → (Env' → Store → Prop) → Prop
abbrev DTGs := List D → Env' → Store → (Env' → Store → Prop) → Prop

abbrev bgX (X : Cx) : Bg := ⟨X.prog, X.w, X.K⟩
def upE (b : Bg) (t : DTE) : TE := fun σ H Q => ∃ (w : Wd) (ρ : Env') (M : Store) (Q' : DK), RS b w ρ M σ H ∧ t ρ M Q' ∧
  ∀ d M', Q' d M' → ∀ (w' : Wd) (v : V) (H' : Hp), w.Le w' → RS b w' ρ M' σ H' → Rel b w' d v → Q v H'
def upT (b : Bg) (t : DTT) : TT := fun σ H Q => ∃ (w : Wd) (ρ : Env') (M : Store) (Q' : Bool → Store → Prop), RS b w ρ M σ H ∧ t ρ M Q' ∧
  ∀ c M', Q' c M' → ∀ (w' : Wd) (H' : Hp), w.Le w' → RS b w' ρ M' σ H' → Q c H'
def upA (b : Bg) (t : DTA) : TA := fun σ H Q => ∃ (w : Wd) (ρ : Env') (M : Store) (Q' : List D → Store → Prop), RS b w ρ M σ H ∧ t ρ M Q' ∧
  ∀ ds M', Q' ds M' → ∀ (w' : Wd) (vs : List V) (H' : Hp), w.Le w' → RS b w' ρ M' σ H' → RelL b w' ds vs → Q vs H'
def NxR (b : Bg) (w : Wd) (q : Env' → Store → Prop) (n : St → Hp → Prop) : Prop := ∀ ρ' M', q ρ' M' → ∀ (w' : Wd) (σ' : St) (H' : Hp), w.Le w' → RS b w' ρ' M' σ' H' → n σ' H'
structure EndsR (b : Bg) (w : Wd) (D' : DEnds) (D : Ends) : Prop where
  nx : NxR b w D'.nx D.nx
  bk : NxR b w D'.bk D.bk
  ct : NxR b w D'.ct D.ct
  rt : ∀ d M', D'.rt d M' → ∀ (w' : Wd) (v : V) (H' : Hp), w.Le w' → RM b w' M' H' → Rel b w' d v → D.rt v H'
def upS (b : Bg) (t : DTS) : TS := fun D σ H => ∃ (w : Wd) (ρ : Env') (M : Store) (D' : DEnds), RS b w ρ M σ H ∧ t D' ρ M ∧ EndsR b w D' D
def upG (b : Bg) (t : DTG) : TG := fun v σ H Q => ∃ (w : Wd) (ρ : Env') (M : Store) (d : D) (Q' : Env' → Store → Prop), RS b w ρ M σ H ∧ Rel b w d v ∧ t d ρ M Q' ∧ NxR b w Q' Q
def upGs (b : Bg) (t : DTGs) : TGs := fun vs σ H Q => ∃ (w : Wd) (ρ : Env') (M : Store) (ds : List D) (Q' : Env' → Store → Prop), RS b w ρ M σ H ∧ RelL b w ds vs ∧ t ds ρ M Q' ∧ NxR b w Q' Q
theorem NxR.mono {b : Bg} {w w1 : Wd} {q : Env' → Store → Prop} {n : St → Hp → Prop} (h : NxR b w q n) (le : w.Le w1) : NxR b w1 q n := fun ρ M q w' σ H l r => h ρ M q w' σ H (le.trans l) r
theorem EndsR.mono {b : Bg} {w w1 : Wd} {D' : DEnds} {D : Ends} (h : EndsR b w D' D) (le : w.Le w1) : EndsR b w1 D' D :=
  ⟨h.nx.mono le, h.bk.mono le, h.ct.mono le, fun d M q w' v H l r z => h.rt d M q w' v H (le.trans l) r z⟩

abbrev DE (X : Cx) (e : Expr) (t : DTE) : Prop := PE X e (upE (bgX X) t)
abbrev DT (X : Cx) (e : Expr) (t : DTT) : Prop := PT X e (upT (bgX X) t)
abbrev DW (X : Cx) (e : Expr) (t : DTT) : Prop := PW X e (upT (bgX X) t)
abbrev DA (X : Cx) (es : List Expr) (t : DTA) : Prop := PA X es (upA (bgX X) t)
abbrev DS (X : Cx) (s : Stmt) (t : DTS) : Prop := PS X s (upS (bgX X) t)
abbrev DSs (X : Cx) (s : List Stmt) (t : DTS) : Prop := PSs X s (upS (bgX X) t)
abbrev DG (X : Cx) (e : Expr) (t : DTG) : Prop := PG X e (upG (bgX X) t)
abbrev DGs (X : Cx) (e : List Expr) (t : DTGs) : Prop := PGs X e (upGs (bgX X) t)
abbrev DTs (X : Cx) (es : List Expr) (t : DTT) : Prop := PTs X es (upT (bgX X) t)

section
variable {X : Cx}
theorem peM {e : Expr} {t t' : TE} (h : PE X e t) (m : ∀ σ H Q, t' σ H Q → t σ H Q) : PE X e t' := ⟨fun pins s σ H Q I q => h.run pins s σ H Q I (m σ H Q q)⟩
theorem ptM {e : Expr} {t t' : TT} (h : PT X e t) (m : ∀ σ H Q, t' σ H Q → t σ H Q) : PT X e t' := ⟨fun pins s σ H Q I q => h.run pins s σ H Q I (m σ H Q q)⟩
theorem pwM {e : Expr} {t t' : TT} (h : PW X e t) (m : ∀ σ H Q, t' σ H Q → t σ H Q) : PW X e t' := ⟨fun wh pins s σ H Q I q => h.run wh pins s σ H Q I (m σ H Q q)⟩
theorem ptsM {e : List Expr} {t t' : TT} (h : PTs X e t) (m : ∀ σ H Q, t' σ H Q → t σ H Q) : PTs X e t' := ⟨fun pins s σ H Q I q => h.run pins s σ H Q I (m σ H Q q)⟩
theorem paM {e : List Expr} {t t' : TA} (h : PA X e t) (m : ∀ σ H Q, t' σ H Q → t σ H Q) : PA X e t' := ⟨fun pos pins s σ H Q I q => h.run pos pins s σ H Q I (m σ H Q q)⟩
theorem psM {e : Stmt} {t t' : TS} (h : PS X e t) (m : ∀ D σ H, t' D σ H → t D σ H) : PS X e t' := ⟨fun pins s σ H D I q => h.run pins s σ H D I (m D σ H q)⟩
theorem pssM {e : List Stmt} {t t' : TS} (h : PSs X e t) (m : ∀ D σ H, t' D σ H → t D σ H) : PSs X e t' := ⟨fun pins s σ H D I q => h.run pins s σ H D I (m D σ H q)⟩
theorem pgM {e : Expr} {t t' : TG} (h : PG X e t) (m : ∀ v σ H Q, t' v σ H Q → t v σ H Q) : PG X e t' := ⟨fun pins s σ H v u Q I r q => h.run pins s σ H v u Q I r (m v σ H Q q)⟩
theorem pgsM {e : List Expr} {t t' : TGs} (h : PGs X e t) (m : ∀ v σ H Q, t' v σ H Q → t v σ H Q) : PGs X e t' := ⟨fun pins s σ H v u Q I r q => h.run pins s σ H v u Q I r (m v σ H Q q)⟩
end

/-! ### names, constants -/
def slot : Env' → Nat → Option D
  | [], _ => none
  | d :: _, 0 => d
  | _ :: r, n + 1 => slot r n
theorem slot_get : ∀ {ρ : Env'} {i : Nat} {d : D}, slot ρ i = some d → ρ[i]? = some (some d)
  | [], _, _, h => by cases h
  | x :: r, 0, d, h => by
    have h : x = some d := h
    simp [h]
  | x :: r, n + 1, d, h => by
    have h : slot r n = some d := h
    simpa using slot_get h
def dVar (i : Nat) : DTE := fun ρ M Q => match slot ρ i with | some d => Q d M | none => False
def dC (d : D) : DTE := fun _ M Q => Q d M
section
variable {X : Cx}
theorem de_var (i : Nat) {x : Str} {pos : Pos} (hN : X.N[i]? = some x := by rfl) (hv : Vis X.env.scope x := by first | exact Or.inl rfl | exact Or.inr (Or.inl rfl) | exact Or.inr (Or.inr rfl)) (hd : (x == ("__debug__" : Str)) = false := by decide)
    (hcd : (x == ("__classdict__" : Str)) = false := by decide) : DE X (.Name x pos) (dVar i) := by
  refine peM (pe_var hN hv hd hcd) fun σ H Q ⟨w, ρ, M, Q', R, h, k⟩ => ?_
  unfold dVar at h
  split at h
  · rename_i d e
    obtain ⟨v, ev, r⟩ := R.e.2 i d (slot_get e)
    exact ⟨v, ev, k d M h w v H (Wd.Le.refl w) R r⟩
  · exact h.elim
theorem de_C {e : Expr} {v : V} {d : D} (h : PE X e (tC v)) (r : ∀ w, Rel (bgX X) w d v) : DE X e (dC d) :=
  peM h fun σ H Q ⟨w, ρ, M, Q', R, h, k⟩ => k d M h w v H (Wd.Le.refl w) R (r w)
theorem de_int {i : Int} {j pos} : DE X (.Constant (.int i) j pos) (dC (.int i)) := de_C pe_int fun _ => .int i
theorem de_bl {b : Bool} {j pos} : DE X (.Constant (.bool b) j pos) (dC (.bl b)) := de_C pe_bl fun _ => .bl b
theorem de_non {j pos} : DE X (.Constant .none j pos) (dC .non) := de_C pe_non fun _ => .non
theorem de_str {x : Str} {j pos} : DE X (.Constant (.str x) j pos) (dC (.str x)) := de_C pe_str fun _ => .str x
/-- a module's constant -/
theorem de_glob {x : Str} {v : V} {d : D} {u : Value} {pos : Pos} (hg : Gl X x) (hm : X.mg x = some u) (r : RelV v u) (q : ∀ w, Rel (bgX X) w d v) (hd : (x == ("__debug__" : Str)) = false := by decide) : DE X (.Name x pos) (dC d) := de_C (pe_glob hg hm r hd) q

/-! ### operators -/
abbrev DR2 := D → D → Store → DK → Prop
abbrev DR1 := D → Store → DK → Prop
abbrev DRC := List D → Store → DK → Prop
/-- a two-place operation on values keeps what the data's says -/
def OpD (b : Bg) (r : R2) (dr : DR2) : Prop := ∀ (w : Wd) (M : Store) (H : Hp) (x y : D) (v u : V) (Q' : DK) (Q : VK), RM b w M H → Rel b w x v → Rel b w y u → dr x y M Q' →
  (∀ d M', Q' d M' → ∀ (w' : Wd) (z : V) (H' : Hp), w.Le w' → RM b w' M' H' → Rel b w' d z → Q z H') → r v u H Q
def UnD (b : Bg) (r : V → Hp → VK → Prop) (dr : DR1) : Prop := ∀ (w : Wd) (M : Store) (H : Hp) (x : D) (v : V) (Q' : DK) (Q : VK), RM b w M H → Rel b w x v → dr x M Q' →
  (∀ d M', Q' d M' → ∀ (w' : Wd) (z : V) (H' : Hp), w.Le w' → RM b w' M' H' → Rel b w' d z → Q z H') → r v H Q
def CallD (b : Bg) (r : List V → Hp → VK → Prop) (dr : DRC) : Prop := ∀ (w : Wd) (M : Store) (H : Hp) (xs : List D) (vs : List V) (Q' : DK) (Q : VK), RM b w M H → RelL b w xs vs → dr xs M Q' →
  (∀ d M', Q' d M' → ∀ (w' : Wd) (z : V) (H' : Hp), w.Le w' → RM b w' M' H' → Rel b w' d z → Q z H') → r vs H Q
def dOp (r : DR2) (ta tb : DTE) : DTE := fun ρ M Q => ta ρ M fun x M1 => tb ρ M1 fun y M2 => r x y M2 Q
def dUn (r : DR1) (ta : DTE) : DTE := fun ρ M Q => ta ρ M fun x M1 => r x M1 Q
theorem up_op {b : Bg} {r : R2} {dr : DR2} {ta tb : DTE} (hr : OpD b r dr) {σ : St} {H : Hp} {Q : VK} (h : upE b (dOp dr ta tb) σ H Q) : tOp r (upE b ta) (upE b tb) σ H Q := by
  obtain ⟨w, ρ, M, Q', R, h, k⟩ := h
  refine ⟨w, ρ, M, _, R, h, fun x M1 h1 w1 v1 H1 l1 R1 r1 => ?_⟩
  refine ⟨w1, ρ, M1, _, R1, h1, fun y M2 h2 w2 v2 H2 l2 R2 r2 => ?_⟩
  exact hr w2 M2 H2 x y v1 v2 Q' Q R2.m (r1.mono l2) r2 h2 fun d M' q w' z H' l R' rz => k d M' q w' z H' ((l1.trans l2).trans l) ⟨R', R2.e.mono l⟩ rz
variable {a b c e : Expr} {ta tb tc : DTE} {pos : Pos}
theorem de_op {op : Operator} {r : R2} {dr : DR2} (ho : OpR X (binaryOp op) r) (hr : OpD (bgX X) r dr) (ha : DE X a ta) (hb : DE X b tb) : DE X (.BinOp a op b pos) (dOp dr ta tb) :=
  peM (pe_op ho ha hb) fun _ _ _ h => up_op hr h
theorem de_un {op : UnaryOp} {r : V → Hp → VK → Prop} {dr : DR1} (ho : UnR X (unaryOp op) r) (hr : UnD (bgX X) r dr) (ha : DE X a ta) : DE X (.UnaryOp op a pos) (dUn dr ta) :=
  peM (pe_un ho ha) fun σ H Q ⟨w, ρ, M, Q', R, h, k⟩ => ⟨w, ρ, M, _, R, h, fun x M1 h1 w1 v1 H1 l1 R1 r1 =>
    hr w1 M1 H1 x v1 Q' Q R1.m r1 h1 fun d M' q w' z H' l R' rz => k d M' q w' z H' (l1.trans l) ⟨R', R1.e.mono l⟩ rz⟩
theorem de_cmp {op : CmpOp} {r : R2} {dr : DR2} (ho : OpR X (compareOp op) r) (hr : OpD (bgX X) r dr) (hm : behindInMarks op b = false) (ha : DE X a ta) (hb : DE X b tb) : DE X (.Compare a [op] [b] pos) (dOp dr ta tb) :=
  peM (pe_cmpR ho ha hb hm) fun _ _ _ h => up_op hr h
theorem de_chain {op op' : CmpOp} {r r' : R2} {dr dr' : DR2} (ho : OpR X (compareOp op) r) (ho' : OpR X (compareOp op') r') (hr : OpD (bgX X) r dr) (hr' : OpD (bgX X) r' dr') (ha : DE X a ta) (hb : DE X b tb) (hc : DE X c tc) (hm : lastMarks [op, op'] [b, c] = false := by rfl) :
    DE X (.Compare a [op, op'] [b, c] pos) (fun ρ M Q => ta ρ M fun x M1 => tb ρ M1 fun y M2 => dr x y M2 fun z M3 => match z with | .bl true => tc ρ M3 fun u M4 => dr' y u M4 Q | .bl false => Q (.bl false) M3 | _ => False) := by
  refine peM (pe_chain ho ho' ha hb hc (hm := hm)) fun σ H Q ⟨w, ρ, M, Q', R, h, k⟩ => ?_
  refine ⟨w, ρ, M, _, R, h, fun x M1 h1 w1 v1 H1 l1 R1 r1 => ?_⟩
  refine ⟨w1, ρ, M1, _, R1, h1, fun y M2 h2 w2 v2 H2 l2 R2 r2 => ?_⟩
  refine hr w2 M2 H2 x y v1 v2 _ _ R2.m (r1.mono l2) r2 h2 fun d M3 q w3 z H3 l3 R3 rz => ?_
  have R3' : RS (bgX X) w3 ρ M3 σ H3 := ⟨R3, R2.e.mono l3⟩
  split at q
  · cases rz
    refine ⟨true, rfl, ?_⟩
    rw [if_pos rfl]
    refine ⟨w3, ρ, M3, _, R3', q, fun u M4 h4 w4 v4 H4 l4 R4 r4 => ?_⟩
    exact hr' w4 M4 H4 y u v2 v4 Q' Q R4.m (r2.mono (l3.trans l4)) r4 h4 fun d M' q w' z H' l R' rz => k d M' q w' z H' ((((l1.trans l2).trans l3).trans l4).trans l) ⟨R', R4.e.mono l⟩ rz
  · cases rz
    refine ⟨false, rfl, ?_⟩
    rw [if_neg Bool.false_ne_true]
    exact k _ M3 q w3 _ H3 ((l1.trans l2).trans l3) R3' (.bl false)
  · exact q.elim

/-! ### tests -/
/-- a value that is a bool -/
def dB (t : DTE) : DTT := fun ρ M Q => t ρ M fun x M1 => match x with | .bl c => Q c M1 | _ => False
theorem dt_val (h : DE X e ta) (he : ∀ whole, isTrue e X.env whole = (do let v ← whole; standAt e.pos; holding [v] (truthy v)) := by intro _; rfl) : DT X e (dB ta) := by
  refine ptM (pt_val h he) fun σ H Q ⟨w, ρ, M, Q', R, h, k⟩ => ?_
  refine ⟨w, ρ, M, _, R, h, fun x M1 h1 w1 v1 H1 l1 R1 r1 => ?_⟩
  split at h1
  · cases r1
    exact ⟨_, rfl, k _ M1 h1 w1 H1 l1 R1⟩
  · exact h1.elim
theorem dt_cmp {op : CmpOp} {r : R2} {dr : DR2} (ho : OpR X (compareOp op) r) (hr : OpD (bgX X) r dr) (hm : behindInMarks op b = false) (ha : DE X a ta) (hb : DE X b tb) : DT X (.Compare a [op] [b] pos) (dB (dOp dr ta tb)) := by
  refine ptM (pt_cmpR ho ha hb hm) fun σ H Q ⟨w, ρ, M, Q', R, h, k⟩ => ?_
  refine up_op hr ⟨w, ρ, M, _, R, h, fun x M1 h1 w1 v1 H1 l1 R1 r1 => ?_⟩
  split at h1
  · cases r1
    exact ⟨_, rfl, k _ M1 h1 w1 H1 l1 R1⟩
  · exact h1.elim
/-- a value's truth -/
def truD (M : Store) : D → Option Bool
  | .non => some false
  | .bl b => some b
  | .int i => some (i != 0)
  | .str x => if x.length ≤ sizeLine then some (x.length != 0) else none
  | .tup ds => some (!ds.isEmpty)
  | .lst ds => some (!ds.isEmpty)
  | .dk kvs => some (!kvs.isEmpty)
  | .ref n => match M[n]? with | some (.lst ds) => some (!ds.isEmpty) | some (.dk kvs) => some (!kvs.isEmpty) | _ => none
  | _ => none
def dTru (t : DTE) : DTT := fun ρ M Q => t ρ M fun x M1 => match truD M1 x with | some c => Q c M1 | none => False
variable {uA uB : DTT} {rest : List Expr}
def dAnd (t u : DTT) : DTT := fun ρ M Q => t ρ M fun c M1 => if c = true then u ρ M1 Q else Q false M1
def dOr (t u : DTT) : DTT := fun ρ M Q => t ρ M fun c M1 => if c = true then Q true M1 else u ρ M1 Q
def dNot (t : DTT) : DTT := fun ρ M Q => t ρ M fun c M1 => Q (!c) M1
theorem DW.dt {e : Expr} {t : DTT} (h : DW X e t) : DT X e t := h.pt
theorem dw_and1 (ha : DT X a uA) : DW X (.BoolOp .And [a] pos) uA := pw_and1 ha
theorem dw_or1 (ha : DT X a uA) : DW X (.BoolOp .Or [a] pos) uA := pw_or1 ha
theorem dw_and (ha : DT X a uA) (hb : DW X (.BoolOp .And (b :: rest) pos) uB) : DW X (.BoolOp .And (a :: b :: rest) pos) (dAnd uA uB) := by
  refine pwM (pw_and ha hb) fun σ H Q ⟨w, ρ, M, Q', R, h, k⟩ => ?_
  refine ⟨w, ρ, M, _, R, h, fun c M1 h1 w1 H1 l1 R1 => ?_⟩
  cases c with
  | true =>
    rw [if_pos rfl] at h1 ⊢
    exact ⟨w1, ρ, M1, Q', R1, h1, fun c M' q w' H' l R' => k c M' q w' H' (l1.trans l) R'⟩
  | false =>
    rw [if_neg Bool.false_ne_true] at h1 ⊢
    exact k _ M1 h1 w1 H1 l1 R1
theorem dw_or (ha : DT X a uA) (hb : DW X (.BoolOp .Or (b :: rest) pos) uB) : DW X (.BoolOp .Or (a :: b :: rest) pos) (dOr uA uB) := by
  refine pwM (pw_or ha hb) fun σ H Q ⟨w, ρ, M, Q', R, h, k⟩ => ?_
  refine ⟨w, ρ, M, _, R, h, fun c M1 h1 w1 H1 l1 R1 => ?_⟩
  cases c with
  | false =>
    rw [if_neg Bool.false_ne_true] at h1 ⊢
    exact ⟨w1, ρ, M1, Q', R1, h1, fun c M' q w' H' l R' => k c M' q w' H' (l1.trans l) R'⟩
  | true =>
    rw [if_pos rfl] at h1 ⊢
    exact k _ M1 h1 w1 H1 l1 R1
theorem dt_not (ha : DT X a uA) : DT X (.UnaryOp .Not a pos) (dNot uA) :=
  ptM (pt_not ha) fun σ H Q ⟨w, ρ, M, Q', R, h, k⟩ => ⟨w, ρ, M, _, R, h, fun c M1 h1 w1 H1 l1 R1 => k _ M1 h1 w1 H1 l1 R1⟩
/-- and, or, not of bools as values -/
def dAndV (ta tb : DTE) : DTE := fun ρ M Q => ta ρ M fun x M1 => match x with | .bl true => tb ρ M1 Q | .bl false => Q (.bl false) M1 | _ => False
def dOrV (ta tb : DTE) : DTE := fun ρ M Q => ta ρ M fun x M1 => match x with | .bl true => Q (.bl true) M1 | .bl false => tb ρ M1 Q | _ => False
def dNotV (ta : DTE) : DTE := fun ρ M Q => ta ρ M fun x M1 => match x with | .bl c => Q (.bl (!c)) M1 | _ => False
theorem de_one {op} (ha : DE X a ta) : DE X (.BoolOp op [a] pos) ta := pe_one ha
theorem de_and (ha : DE X a ta) (hb : DE X (.BoolOp .And (b :: rest) pos) tb) : DE X (.BoolOp .And (a :: b :: rest) pos) (dAndV ta tb) := by
  refine peM (pe_and ha hb) fun σ H Q ⟨w, ρ, M, Q', R, h, k⟩ => ?_
  refine ⟨w, ρ, M, _, R, h, fun x M1 h1 w1 v1 H1 l1 R1 r1 => ?_⟩
  split at h1
  · cases r1
    refine ⟨true, rfl, ?_⟩
    rw [if_pos rfl]
    exact ⟨w1, ρ, M1, Q', R1, h1, fun d M' q w' z H' l R' rz => k d M' q w' z H' (l1.trans l) R' rz⟩
  · cases r1
    refine ⟨false, rfl, ?_⟩
    rw [if_neg Bool.false_ne_true]
    exact k _ M1 h1 w1 _ H1 l1 R1 (.bl false)
  · exact h1.elim
theorem de_or (ha : DE X a ta) (hb : DE X (.BoolOp .Or (b :: rest) pos) tb) : DE X (.BoolOp .Or (a :: b :: rest) pos) (dOrV ta tb) := by
  refine peM (pe_or ha hb) fun σ H Q ⟨w, ρ, M, Q', R, h, k⟩ => ?_
  refine ⟨w, ρ, M, _, R, h, fun x M1 h1 w1 v1 H1 l1 R1 r1 => ?_⟩
  split at h1
  · cases r1
    refine ⟨true, rfl, ?_⟩
    rw [if_pos rfl]
    exact k _ M1 h1 w1 _ H1 l1 R1 (.bl true)
  · cases r1
    refine ⟨false, rfl, ?_⟩
    rw [if_neg Bool.false_ne_true]
    exact ⟨w1, ρ, M1, Q', R1, h1, fun d M' q w' z H' l R' rz => k d M' q w' z H' (l1.trans l) R' rz⟩
  · exact h1.elim
theorem de_not (ha : DE X a ta) : DE X (.UnaryOp .Not a pos) (dNotV ta) := by
  refine peM (pe_not ha) fun σ H Q ⟨w, ρ, M, Q', R, h, k⟩ => ?_
  refine ⟨w, ρ, M, _, R, h, fun x M1 h1 w1 v1 H1 l1 R1 r1 => ?_⟩
  split at h1
  · cases r1
    exact ⟨_, rfl, k _ M1 h1 w1 _ H1 l1 R1 (.bl _)⟩
  · exact h1.elim
def dIf (t : DTT) (ta tb : DTE) : DTE := fun ρ M Q => t ρ M fun c M1 => if c = true then ta ρ M1 Q else tb ρ M1 Q
theorem de_if (hc : DT X c uA) (ha : DE X a ta) (hb : DE X b tb) : DE X (.IfExp c a b pos) (dIf uA ta tb) := by
  refine peM (pe_ifExp hc ha hb) fun σ H Q ⟨w, ρ, M, Q', R, h, k⟩ => ?_
  refine ⟨w, ρ, M, _, R, h, fun c M1 h1 w1 H1 l1 R1 => ?_⟩
  cases c with
  | true =>
    rw [if_pos rfl] at h1 ⊢
    exact ⟨w1, ρ, M1, Q', R1, h1, fun d M' q w' z H' l R' rz => k d M' q w' z H' (l1.trans l) R' rz⟩
  | false =>
    rw [if_neg Bool.false_ne_true] at h1 ⊢
    exact ⟨w1, ρ, M1, Q', R1, h1, fun d M' q w' z H' l R' rz => k d M' q w' z H' (l1.trans l) R' rz⟩

/-! ### argument lists, displays -/
def dNil : DTA := fun _ M Q => Q [] M
def dCons (ta : DTE) (tr : DTA) : DTA := fun ρ M Q => ta ρ M fun x M1 => tr ρ M1 fun xs M2 => Q (x :: xs) M2
variable {es : List Expr} {tr : DTA}
theorem da_nil : DA X [] dNil := paM pa_nil fun σ H Q ⟨w, ρ, M, Q', R, h, k⟩ => k [] M h w [] H (Wd.Le.refl w) R .nil
theorem da_cons (ha : DE X e ta) (hr : DA X es tr) (hs : starEach (e :: es) X.env = (false, eval e X.env) :: starEach es X.env := by rfl) : DA X (e :: es) (dCons ta tr) := by
  refine paM (pa_cons ha hr hs) fun σ H Q ⟨w, ρ, M, Q', R, h, k⟩ => ?_
  refine ⟨w, ρ, M, _, R, h, fun x M1 h1 w1 v1 H1 l1 R1 r1 => ?_⟩
  refine ⟨w1, ρ, M1, _, R1, h1, fun xs M2 h2 w2 vs H2 l2 R2 r2 => ?_⟩
  exact k _ M2 h2 w2 _ H2 (l1.trans l2) R2 (.cons (r1.mono l2) r2)
/-- a tuple -/
def dTup (t : DTA) : DTE := fun ρ M Q => t ρ M fun xs M1 => xs.length ≤ sizeLine ∧ Q (.tup xs) M1
theorem frozT {b : Bg} {w : Wd} {M : Store} {H : Hp} {xs : List D} {vs : List V} {p : Addr} (R : RM b w M H) (r : RelL b w xs vs) (hp : H p = none) : Rel b (w.froz p (.tup vs)) (.tup xs) (.ref p) := by
  have rr := r.mono (Wd.froz_le (o := .tup vs) (R.nF hp))
  exact .tup (.inl (.inl upd_same)) rr.1 rr.2
theorem frozL {b : Bg} {w : Wd} {M : Store} {H : Hp} {xs : List D} {vs : List V} {p : Addr} (R : RM b w M H) (r : RelL b w xs vs) (hp : H p = none) : Rel b (w.froz p (.lst vs)) (.lst xs) (.ref p) := by
  have rr := r.mono (Wd.froz_le (o := .lst vs) (R.nF hp))
  exact .lst (.inl (.inl upd_same)) rr.1 rr.2
theorem RS.froz {b : Bg} {w : Wd} {ρ : Env'} {M : Store} {σ : St} {H : Hp} (R : RS b w ρ M σ H) {p : Addr} {o : HO} (hp : H p = none) : RS b (w.froz p o) ρ M σ (upd H p o) :=
  ⟨R.m.froz hp, R.e.mono (Wd.froz_le (R.m.nF hp))⟩
theorem de_tup {k} (h : DA X es tr) : DE X (.Tuple es k pos) (dTup tr) := by
  refine peM (pe_tup h) fun σ H Q ⟨w, ρ, M, Q', R, h, k⟩ => ?_
  refine ⟨w, ρ, M, _, R, h, fun xs M1 h1 w1 vs H1 l1 R1 r1 => ?_⟩
  obtain ⟨hz, h1⟩ := h1
  refine ⟨by rw [← r1.1]; exact hz, fun p hp => ?_⟩
  exact k _ M1 h1 (w1.froz p (.tup vs)) _ _ (l1.trans (Wd.froz_le (R1.m.nF hp))) (R1.froz hp) (frozT R1.m r1 hp)
/-- a list that stays as it is | that may change -/
def dLst (t : DTA) : DTE := fun ρ M Q => t ρ M fun xs M1 => xs.length ≤ sizeLine ∧ Q (.lst xs) M1
def dLstM (t : DTA) : DTE := fun ρ M Q => t ρ M fun xs M1 => xs.length ≤ sizeLine ∧ Q (.ref M1.length) (M1 ++ [.lst xs])
theorem RS.put {b : Bg} {w : Wd} {ρ : Env'} {M : Store} {σ : St} {H : Hp} (R : RS b w ρ M σ H) {p : Addr} {o : HO} {m : MO} (hp : H p = none) (c : CellR b (w.put p) p m o) : RS b (w.put p) ρ (M ++ [m]) σ (upd H p o) :=
  ⟨R.m.put hp c, R.e.mono Wd.put_le⟩
theorem putR {b : Bg} {w : Wd} {M : Store} {H : Hp} (R : RM b w M H) {p : Addr} : Rel b (w.put p) (.ref M.length) (.ref p) := by
  refine .ref ?_
  show (w.as ++ [p])[M.length]? = some p
  rw [← R.len, List.getElem?_append_right (Nat.le_refl _)]
  simp
theorem de_lst (h : DA X es tr) : DE X (.List es pos) (dLst tr) := by
  refine peM (pe_lst h) fun σ H Q ⟨w, ρ, M, Q', R, h, k⟩ => ?_
  refine ⟨w, ρ, M, _, R, h, fun xs M1 h1 w1 vs H1 l1 R1 r1 => ?_⟩
  obtain ⟨hz, h1⟩ := h1
  refine ⟨by rw [← r1.1]; exact hz, fun p hp => ?_⟩
  exact k _ M1 h1 (w1.froz p (.lst vs)) _ _ (l1.trans (Wd.froz_le (R1.m.nF hp))) (R1.froz hp) (frozL R1.m r1 hp)
theorem de_lstM (h : DA X es tr) : DE X (.List es pos) (dLstM tr) := by
  refine peM (pe_lst h) fun σ H Q ⟨w, ρ, M, Q', R, h, k⟩ => ?_
  refine ⟨w, ρ, M, _, R, h, fun xs M1 h1 w1 vs H1 l1 R1 r1 => ?_⟩
  obtain ⟨hz, h1⟩ := h1
  refine ⟨by rw [← r1.1]; exact hz, fun p hp => ?_⟩
  exact k _ _ h1 (w1.put p) _ _ (l1.trans Wd.put_le) (R1.put hp (.lst (r1.mono Wd.put_le))) (putR R1.m)

/-! ### blocks, statements -/
variable {st : Stmt} {sts : List Stmt} {t u : DTS}
def dNext : DTS := fun D ρ M => D.nx ρ M
def dSeq (t u : DTS) : DTS := fun D ρ M => t { D with nx := u D } ρ M
theorem dss_nil : DSs X [] dNext := pssM pss_nil fun D σ H ⟨w, ρ, M, D', R, h, E⟩ => E.nx ρ M h w σ H (Wd.Le.refl w) R
theorem dss_one (h : DS X st t) : DSs X [st] t := pss_one h
theorem dss_cons (h1 : DS X st t) (h2 : DSs X sts u) : DSs X (st :: sts) (dSeq t u) := by
  refine pssM (pss_cons h1 h2) fun D σ H ⟨w, ρ, M, D', R, h, E⟩ => ?_
  refine ⟨w, ρ, M, _, R, h, ⟨fun ρ' M' q w' σ' H' l R' => ?_, E.bk, E.ct, E.rt⟩⟩
  exact ⟨w', ρ', M', D', R', q, E.mono l⟩
theorem ds_pass : DS X (.Pass pos) dNext := psM ps_pass fun D σ H ⟨w, ρ, M, D', R, h, E⟩ => E.nx ρ M h w σ H (Wd.Le.refl w) R
def dBreak : DTS := fun D ρ M => D.bk ρ M
def dCont : DTS := fun D ρ M => D.ct ρ M
theorem ds_break : DS X (.Break pos) dBreak := psM ps_break fun D σ H ⟨w, ρ, M, D', R, h, E⟩ => E.bk ρ M h w σ H (Wd.Le.refl w) R
theorem ds_continue : DS X (.Continue pos) dCont := psM ps_continue fun D σ H ⟨w, ρ, M, D', R, h, E⟩ => E.ct ρ M h w σ H (Wd.Le.refl w) R
theorem ds_doc {x : Str} {j pos'} : DS X (.Expr (.Constant (.str x) j pos) pos') dNext := psM ps_doc fun D σ H ⟨w, ρ, M, D', R, h, E⟩ => E.nx ρ M h w σ H (Wd.Le.refl w) R
def dDrop (te : DTE) : DTS := fun D ρ M => te ρ M fun _ M1 => D.nx ρ M1
theorem ds_expr (he : DE X e ta) (hs : swapsWith e none pos.line X.env = pure false := by rfl) : DS X (.Expr e pos) (dDrop ta) :=
  psM (ps_expr he hs) fun D σ H ⟨w, ρ, M, D', R, h, E⟩ => ⟨w, ρ, M, _, R, h, fun x M1 h1 w1 v1 H1 l1 R1 r1 => E.nx ρ M1 h1 w1 σ H1 l1 R1⟩
def dRet (te : DTE) : DTS := fun D ρ M => te ρ M D.rt
theorem ds_ret (he : DE X e ta) : DS X (.Return (some e) pos) (dRet ta) :=
  psM (ps_ret he) fun D σ H ⟨w, ρ, M, D', R, h, E⟩ => ⟨w, ρ, M, _, R, h, fun x M1 h1 w1 v1 H1 l1 R1 r1 => E.rt x M1 h1 w1 v1 H1 l1 R1.m r1⟩
def dRetN : DTS := fun D _ M => D.rt .non M
theorem ds_retN : DS X (.Return none pos) dRetN := psM ps_retN fun D σ H ⟨w, ρ, M, D', R, h, E⟩ => E.rt .non M h w .non H (Wd.Le.refl w) R.m .non
def dIfS (c : DTT) (t u : DTS) : DTS := fun D ρ M => c ρ M fun b M1 => if b = true then t D ρ M1 else u D ρ M1
theorem ds_if {sb : List Stmt} (hc : DT X c uA) (ha : DSs X sts t) (hb : DSs X sb u) : DS X (.If c sts sb pos) (dIfS uA t u) := by
  refine psM (ps_if hc ha hb) fun D σ H ⟨w, ρ, M, D', R, h, E⟩ => ?_
  refine ⟨w, ρ, M, _, R, h, fun c M1 h1 w1 H1 l1 R1 => ?_⟩
  cases c with
  | true =>
    rw [if_pos rfl] at h1 ⊢
    exact ⟨w1, ρ, M1, D', R1, h1, E.mono l1⟩
  | false =>
    rw [if_neg Bool.false_ne_true] at h1 ⊢
    exact ⟨w1, ρ, M1, D', R1, h1, E.mono l1⟩
def dNever : DTS := fun _ _ _ => False
theorem ds_never : DS X st dNever := psM ps_never fun D σ H ⟨w, ρ, M, D', R, h, E⟩ => h.elim
theorem dss_never : DSs X sts dNever := pssM pss_never fun D σ H ⟨w, ρ, M, D', R, h, E⟩ => h.elim

/-! ### targets -/
def dgName (i : Nat) : DTG := fun d ρ M Q => Q (ρ.set i (some d)) M
theorem dg_name {i : Nat} {x : Str} (hN : X.N.Nodup) (hi : X.N[i]? = some x) (hx : Loc X.env.scope x) (hf : X.fn x = true ∨ X.env.scope.names.lookup x = some .local := by first | exact .inl rfl | exact .inr rfl | assumption) : DG X (.Name x pos) (dgName i) :=
  pgM (pg_name hN hi hx hf) fun v σ H Q ⟨w, ρ, M, d, Q', R, r, h, k⟩ => k _ M h w _ H (Wd.Le.refl w) ⟨R.m, R.e.set r⟩
def dgNil : DTGs := fun ds ρ M Q => ds = [] ∧ Q ρ M
def dgCons (t : DTG) (u : DTGs) : DTGs := fun ds ρ M Q => match ds with | d :: r => t d ρ M fun ρ' M' => u r ρ' M' Q | [] => False
theorem dgs_nil : DGs X [] dgNil := pgsM pgs_nil fun vs σ H Q ⟨w, ρ, M, ds, Q', R, r, h, k⟩ => by
  obtain ⟨e, h⟩ := h
  subst e
  have : vs = [] := List.length_eq_zero_iff.mp r.1.symm
  exact ⟨this, k ρ M h w σ H (Wd.Le.refl w) R⟩
theorem dgs_cons {tg : DTG} {ug : DTGs} (h1 : DG X e tg) (h2 : DGs X es ug) (hs : (assignEach (e :: es) X.env).map (·.2) = assign e X.env :: (assignEach es X.env).map (·.2) := by rfl) : DGs X (e :: es) (dgCons tg ug) := by
  refine pgsM (pgs_cons h1 h2 hs) fun vs σ H Q ⟨w, ρ, M, ds, Q', R, r, h, k⟩ => ?_
  cases ds with
  | nil => exact h.elim
  | cons d ds =>
    cases vs with
    | nil => cases r.1
    | cons v vs =>
      refine ⟨v, vs, rfl, w, ρ, M, d, _, R, r.2 0 d v rfl rfl, h, fun ρ1 M1 h1 w1 σ1 H1 l1 R1 => ?_⟩
      exact ⟨w1, ρ1, M1, ds, Q', R1, RelL.mono l1 ⟨Nat.succ.inj r.1, fun i a b e1 e2 => r.2 (i + 1) a b e1 e2⟩, h1, k.mono l1⟩
/-- (a, b, ..) = a tuple -/
def dgTup (n : Nat) (t : DTGs) : DTG := fun d ρ M Q => match d with | .tup ds => ds.length = n ∧ t ds ρ M Q | _ => False
theorem dg_tup {k n : Nat} {tg : DTGs} (hc : X.calm = true) (h : DGs X es tg) (hn : (assignEach es X.env).length = n := by rfl) (hst : (assignEach es X.env).findIdx? (·.1) = none := by rfl) : DG X (.Tuple es k pos) (dgTup n tg) := by
  refine pgM (pg_tup hc h hn hst) fun v σ H Q ⟨w, ρ, M, d, Q', R, r, h, k⟩ => ?_
  unfold dgTup at h
  split at h
  · rename_i ds
    cases r with
    | tup s l q =>
      exact ⟨_, _, rfl, sqT_mono R.m.sub s, l.symm.trans h.1, w, ρ, M, ds, Q', R, ⟨l, q⟩, h.2, k⟩
  · exact h.elim
def dAsg (te : DTE) (g : DTG) : DTS := fun D ρ M => te ρ M fun d M1 => g d ρ M1 D.nx
theorem ds_asg {tg : Expr} {g : DTG} (he : DE X e ta) (hg : DG X tg g) (hs : swapsWithSole [tg] e pos.line X.env = pure false := by rfl) (hw : swappedStores [tg] e X.env = pure none := by rfl)
    (h1 : (assignEach [tg] X.env).map (·.2) = [assign tg X.env] := by rfl) : DS X (.Assign [tg] e pos) (dAsg ta g) := by
  refine psM (ps_asg he hg hs hw h1) fun D σ H ⟨w, ρ, M, D', R, h, E⟩ => ?_
  exact ⟨w, ρ, M, _, R, h, fun d M1 h1 w1 v1 H1 l1 R1 r1 => ⟨w1, ρ, M1, d, _, R1, r1, h1, E.nx.mono l1⟩⟩
theorem ds_set {i : Nat} {x : Str} {pos' : Pos} (hN : X.N.Nodup) (hi : X.N[i]? = some x) (hx : Loc X.env.scope x) (he : DE X e ta) (hs : swapsWith e (some (.Name x pos')) pos.line X.env = pure false := by rfl) (hf : X.fn x = true ∨ X.env.scope.names.lookup x = some .local := by first | exact .inl rfl | exact .inr rfl | assumption) :
    DS X (.Assign [.Name x pos'] e pos) (dAsg ta (dgName i)) := by
  refine psM (ps_set hN hi hx he hs hf) fun D σ H ⟨w, ρ, M, D', R, h, E⟩ => ?_
  exact ⟨w, ρ, M, _, R, h, fun d M1 h1 w1 v1 H1 l1 R1 r1 => E.nx _ M1 h1 w1 _ H1 l1 ⟨R1.m, R1.e.set r1⟩⟩
def dPar (i j : Nat) (t : DTA) : DTS := fun D ρ M => t ρ M fun ds M1 => match ds with | [a, b] => D.nx ((ρ.set i (some a)).set j (some b)) M1 | _ => False
theorem ds_par {i j : Nat} {x y : Str} {px py pt : Pos} {kt k2 pt2} (hc : X.calm = true) (hN : X.N.Nodup) (hi : X.N[i]? = some x) (hj : X.N[j]? = some y) (hij : i ≠ j)
    (hx : X.env.scope.names.lookup x = some .local) (hy : X.env.scope.names.lookup y = some .local) (ha : DA X [a, b] tr)
    (hw : swappedStores [.Tuple [.Name x px, .Name y py] kt pt] (.Tuple [a, b] k2 pt2) X.env = pure (some [x, y]))
    (hs : swapsWithSole [.Tuple [.Name x px, .Name y py] kt pt] (.Tuple [a, b] k2 pt2) pos.line X.env = pure false := by rfl) :
    DS X (.Assign [.Tuple [.Name x px, .Name y py] kt pt] (.Tuple [a, b] k2 pt2) pos) (dPar i j tr) := by
  refine psM (ps_par hc hN hi hj hij hx hy ha hw hs) fun D σ H ⟨w, ρ, M, D', R, h, E⟩ => ?_
  refine ⟨w, ρ, M, _, R, h, fun ds M1 h1 w1 vs H1 l1 R1 r1 => ?_⟩
  split at h1
  · rename_i a b
    match vs, r1 with
    | [v, u], r1 => exact ⟨v, u, rfl, E.nx _ M1 h1 w1 _ H1 l1 ⟨R1.m, (R1.e.set (r1.2 0 a v rfl rfl)).set (r1.2 1 b u rfl rfl)⟩⟩
    | [], r1 => cases r1.1
    | [_], r1 => exact absurd r1.1 (by simp)
    | _ :: _ :: _ :: _, r1 => exact absurd r1.1 (by simp)
  · exact h1.elim
/-- name op= e -/
def dAug (i : Nat) (te : DTE) (r : DR2) : DTS := fun D ρ M => match slot ρ i with | some x => te ρ M fun y M1 => r x y M1 fun z M2 => D.nx (ρ.set i (some z)) M2 | none => False
theorem pip_of {op : Operator} {r : R2} (h : OpR X (inplaceOp op) r) : PIp X op r := fun pins s σ H x y v u Q I rx ry q => h pins s σ H x y v u Q I rx ry q
theorem ds_aug {i : Nat} {x : Str} {op : Operator} {r : R2} {dr : DR2} {pos' : Pos} (hN : X.N.Nodup) (hi : X.N[i]? = some x) (hx : Loc X.env.scope x) (ho : OpR X (inplaceOp op) r) (hr : OpD (bgX X) r dr) (he : DE X e ta)
    (hf : X.fn x = true ∨ X.env.scope.names.lookup x = some .local := by first | exact .inl rfl | exact .inr rfl | assumption) : DS X (.AugAssign (.Name x pos') op e pos) (dAug i ta dr) := by
  refine psM (ps_aug hN hi hx he (pip_of ho) hf) fun D σ H ⟨w, ρ, M, D', R, h, E⟩ => ?_
  unfold dAug at h
  split at h
  · rename_i d ed
    obtain ⟨v, ev, rd⟩ := R.e.2 i d (slot_get ed)
    refine ⟨v, ev, w, ρ, M, _, R, h, fun y M1 h1 w1 u1 H1 l1 R1 r1 => ?_⟩
    exact hr w1 M1 H1 d y v u1 _ _ R1.m (rd.mono l1) r1 h1 fun z M2 q w2 vz H2 l2 R2 rz => E.nx _ M2 q w2 _ H2 (l1.trans l2) ⟨R2, (R1.e.mono l2).set rz⟩
  · exact h.elim

/-! ### while -/
def dWhile (c : DTT) (tb : DTS) : DTS := fun D ρ M => ∃ W : Nat → Env' → Store → Prop, (∃ m, W m ρ M) ∧ ∀ m ρ M, W m ρ M →
  c ρ M fun b M1 => if b = true then tb { D with nx := fun ρ' M' => TurnOk M ρ' M' fun ρ'' M'' => ∃ m', m' < m ∧ W m' ρ'' M'', ct := fun ρ' M' => TurnOk M ρ' M' fun ρ'' M'' => ∃ m', m' < m ∧ W m' ρ'' M'', bk := D.nx } ρ M1 else D.nx ρ M1
theorem ds_while (hp : PassesOwn (model X.prog X.w) X.A X.env X.xe) (hc : DT X c uA) (hb : DSs X sts t) : DS X (.While c sts [] pos) (dWhile uA t) := by
  refine psM (ps_while hp hc hb) fun D σ H ⟨w, ρ, M, D', R, ⟨W, ⟨m0, w0⟩, turn⟩, E⟩ => ?_
  refine ⟨fun m σ H => ∃ (w1 : Wd) (ρ1 : Env') (M1 : Store), w.Le w1 ∧ RS (bgX X) w1 ρ1 M1 σ H ∧ W m ρ1 M1, ⟨m0, w, ρ, M, Wd.Le.refl w, R, w0⟩, ?_⟩
  rintro m σ1 H1 ⟨w1, ρ1, M1, l1, R1, q1⟩
  refine ⟨w1, ρ1, M1, _, R1, turn m ρ1 M1 q1, fun c M2 h2 w2 H2 l2 R2 => ?_⟩
  cases c with
  | false =>
    rw [if_neg Bool.false_ne_true] at h2 ⊢
    exact E.nx _ M2 h2 w2 _ H2 (l1.trans l2) R2
  | true =>
    rw [if_pos rfl] at h2 ⊢
    refine ⟨fun σ' H' => ∃ (m' : Nat) (w1 : Wd) (ρ1 : Env') (M1 : Store), m' < m ∧ w.Le w1 ∧ RS (bgX X) w1 ρ1 M1 σ' H' ∧ W m' ρ1 M1, fun σ' H' ⟨m', w', ρ', M', hm, l, R', q⟩ => ⟨m', hm, w', ρ', M', l, R', q⟩, ?_⟩
    have go : NxR (bgX X) w2 (fun ρ' M' => TurnOk M1 ρ' M' fun ρ'' M'' => ∃ m', m' < m ∧ W m' ρ'' M'') (fun σ' H' => ∃ (m' : Nat) (w1 : Wd) (ρ1 : Env') (M1 : Store), m' < m ∧ w.Le w1 ∧ RS (bgX X) w1 ρ1 M1 σ' H' ∧ W m' ρ1 M1) := by
      intro ρ3 M3 h3 w3 σ3 H3 l3 R3
      obtain ⟨ρ4, M4, w4, l4, R4, m', hm, q⟩ := h3.sound R1.m (l2.trans l3) R3
      exact ⟨m', w4, ρ4, M4, hm, l1.trans l4, R4, q⟩
    exact ⟨w2, ρ1, M2, _, R2, h2, ⟨go, E.nx.mono (l1.trans l2), go, fun d M' q w' v H' l R' r => E.rt d M' q w' v H' ((l1.trans l2).trans l) R' r⟩⟩
end
end DL

set_option Elab.async false
set_option linter.all false
set_option maxRecDepth 100000
set_option maxHeartbeats 2000000
/-! DLOps: operators, subscripts, methods, built-ins over data. -/
namespace DL
open PySem L2

/-! ### the values' relations out of the data's -/
section
variable {X : Cx}
def rX (b : Bg) (dr : DR2) : R2 := fun v u H Q => ∃ (w : Wd) (M : Store) (x y : D) (Q' : DK), RM b w M H ∧ Rel b w x v ∧ Rel b w y u ∧ dr x y M Q' ∧
  ∀ d M', Q' d M' → ∀ (w' : Wd) (z : V) (H' : Hp), w.Le w' → RM b w' M' H' → Rel b w' d z → Q z H'
theorem rX_d {b : Bg} {dr : DR2} : OpD b (rX b dr) dr := fun w M H x y v u Q' Q R r1 r2 h k => ⟨w, M, x, y, Q', R, r1, r2, h, k⟩
def rU1 (b : Bg) (dr : DR1) : V → Hp → VK → Prop := fun v H Q => ∃ (w : Wd) (M : Store) (x : D) (Q' : DK), RM b w M H ∧ Rel b w x v ∧ dr x M Q' ∧
  ∀ d M', Q' d M' → ∀ (w' : Wd) (z : V) (H' : Hp), w.Le w' → RM b w' M' H' → Rel b w' d z → Q z H'
theorem rU1_d {b : Bg} {dr : DR1} : UnD b (rU1 b dr) dr := fun w M H x v Q' Q R r1 h k => ⟨w, M, x, Q', R, r1, h, k⟩
def rCX (b : Bg) (dr : DRC) : List V → Hp → VK → Prop := fun vs H Q => ∃ (w : Wd) (M : Store) (xs : List D) (Q' : DK), RM b w M H ∧ RelL b w xs vs ∧ dr xs M Q' ∧
  ∀ d M', Q' d M' → ∀ (w' : Wd) (z : V) (H' : Hp), w.Le w' → RM b w' M' H' → Rel b w' d z → Q z H'
theorem rCX_d {b : Bg} {dr : DRC} : CallD b (rCX b dr) dr := fun w M H xs vs Q' Q R r1 h k => ⟨w, M, xs, Q', R, r1, h, k⟩
/-- an operation over data -/
abbrev OpX (X : Cx) (f : Value → Value → Sem Value) (dr : DR2) : Prop := OpR X f (rX (bgX X) dr)
abbrev UnX (X : Cx) (f : Value → Sem Value) (dr : DR1) : Prop := UnR X f (rU1 (bgX X) dr)
abbrev CallX (X : Cx) (f : Value) (dr : DRC) : Prop := CallR X f (rCX (bgX X) dr)
variable {a b c e : Expr} {ta tb tc : DTE} {pos : Pos}
theorem de_opX {op : Operator} {dr : DR2} (ho : OpX X (binaryOp op) dr) (ha : DE X a ta) (hb : DE X b tb) : DE X (.BinOp a op b pos) (dOp dr ta tb) := de_op ho rX_d ha hb
theorem de_unX {op : UnaryOp} {dr : DR1} (ho : UnX X (unaryOp op) dr) (ha : DE X a ta) : DE X (.UnaryOp op a pos) (dUn dr ta) := de_un ho rU1_d ha
theorem de_cmpX {op : CmpOp} {dr : DR2} (ho : OpX X (compareOp op) dr) (hm : behindInMarks op b = false) (ha : DE X a ta) (hb : DE X b tb) : DE X (.Compare a [op] [b] pos) (dOp dr ta tb) := de_cmp ho rX_d hm ha hb
theorem dt_cmpX {op : CmpOp} {dr : DR2} (ho : OpX X (compareOp op) dr) (hm : behindInMarks op b = false) (ha : DE X a ta) (hb : DE X b tb) : DT X (.Compare a [op] [b] pos) (dB (dOp dr ta tb)) := dt_cmp ho rX_d hm ha hb
theorem ds_augX {i : Nat} {x : Str} {op : Operator} {dr : DR2} {pos' : Pos} (hN : X.N.Nodup) (hi : X.N[i]? = some x) (hx : Loc X.env.scope x) (ho : OpX X (inplaceOp op) dr) (he : DE X e ta)
    (hf : X.fn x = true ∨ X.env.scope.names.lookup x = some .local := by first | exact .inl rfl | exact .inr rfl | assumption) : DS X (.AugAssign (.Name x pos') op e pos) (dAug i ta dr) := ds_aug hN hi hx ho rX_d he hf
/-- from a rule of HandS -/
theorem OpX.of {f : Value → Value → Sem Value} {r : R2} {dr : DR2} (h : OpR X f r) (hd : OpD (bgX X) r dr) : OpX X f dr := fun pins s σ H x y v u Q I rx ry ⟨w, M, dx, dy, Q', R, r1, r2, q, k⟩ =>
  h pins s σ H x y v u Q I rx ry (hd w M H dx dy x y Q' Q R r1 r2 q k)
theorem UnX.of {f : Value → Sem Value} {r : V → Hp → VK → Prop} {dr : DR1} (h : UnR X f r) (hd : UnD (bgX X) r dr) : UnX X f dr := fun pins s σ H x v Q I rx ⟨w, M, dx, Q', R, r1, q, k⟩ =>
  h pins s σ H x v Q I rx (hd w M H dx x Q' Q R r1 q k)
theorem CallX.of {f : Value} {r : List V → Hp → VK → Prop} {dr : DRC} (h : CallR X f r) (hd : CallD (bgX X) r dr) : CallX X f dr := fun pins s σ H xs us Q I rx ⟨w, M, dx, Q', R, r1, q, k⟩ =>
  h pins s σ H xs us Q I rx (hd w M H dx xs Q' Q R r1 q k)
end

/-! ### views -/
def viewL (M : Store) : D → Option (List D)
  | .lst ds => some ds
  | .ref n => match M[n]? with | some (.lst ds) => some ds | _ => none
  | _ => none
/-- a list or a tuple -/
def viewS (M : Store) : D → Option (List D)
  | .tup ds => some ds
  | .lst ds => some ds
  | .ref n => match M[n]? with | some (.lst ds) => some ds | _ => none
  | _ => none
theorem viewL_at {b : Bg} {w : Wd} {M : Store} {H : Hp} {d : D} {v : V} {ds : List D} (R : RM b w M H) (r : Rel b w d v) (e : viewL M d = some ds) : ∃ a vs, v = .ref a ∧ SqL b.K H a vs ∧ RelL b w ds vs := by
  cases r with
  | lst s l q =>
    cases e
    exact ⟨_, _, rfl, sqL_mono R.sub s, l, q⟩
  | ref ea =>
    simp only [viewL] at e
    split at e
    · rename_i hM
      cases e
      obtain ⟨_, u, eu, c⟩ := R.cell _ _ _ ea hM
      cases c with
      | lst q => exact ⟨_, _, rfl, .inl (.inl eu), q⟩
    · cases e
  | _ => cases e
theorem viewS_at {b : Bg} {w : Wd} {M : Store} {H : Hp} {d : D} {v : V} {ds : List D} (R : RM b w M H) (r : Rel b w d v) (e : viewS M d = some ds) : ∃ a vs, v = .ref a ∧ (SqL b.K H a vs ∨ SqT b.K H a vs) ∧ RelL b w ds vs := by
  cases r with
  | tup s l q =>
    cases e
    exact ⟨_, _, rfl, .inr (sqT_mono R.sub s), l, q⟩
  | lst s l q =>
    cases e
    exact ⟨_, _, rfl, .inl (sqL_mono R.sub s), l, q⟩
  | ref ea =>
    have e' : viewL M (.ref _) = some ds := e
    obtain ⟨a, vs, e1, s, q⟩ := viewL_at R (.ref ea) e'
    exact ⟨a, vs, e1, .inl s, q⟩
  | _ => cases e

/-! ### operators -/
section
variable {X : Cx}
def addR : DR2 := fun x y M Q => match x, y with
  | .int i, .int j => Q (.int (i + j)) M
  | .str a, .str b => a.length + b.length ≤ sizeLine ∧ Q (.str (a ++ b)) M
  | .tup xs, .tup ys => xs.length + ys.length ≤ sizeLine ∧ Q (.tup (xs ++ ys)) M
  | _, _ => False
theorem addR_d : OpD (bgX X) (fun x y H Q => rI0 (fun i j => .int (i + j)) x y H Q ∨ (∃ i j, x = .str i ∧ y = .str j ∧ i.length + j.length ≤ sizeLine ∧ Q (.str (i ++ j)) H) ∨ rCatA X.K x y H Q) addR := by
  intro w M H x y v u Q' Q R r1 r2 h k
  unfold addR at h
  split at h
  · cases r1; cases r2
    exact .inl ⟨_, _, rfl, rfl, k _ M h w _ H (Wd.Le.refl w) R (.int _)⟩
  · cases r1; cases r2
    exact .inr (.inl ⟨_, _, rfl, rfl, h.1, k _ M h.2 w _ H (Wd.Le.refl w) R (.str _)⟩)
  · cases r1 with
    | tup s1 l1 q1 =>
      cases r2 with
      | tup s2 l2 q2 =>
        refine .inr (.inr ⟨_, _, _, _, rfl, rfl, sqT_mono R.sub s1, sqT_mono R.sub s2, by rw [← l1, ← l2]; exact h.1, fun e => ?_, fun _ e => ?_, fun _ _ p hp => ?_⟩)
        · subst e
          have : _ = ([] : List D) := List.length_eq_zero_iff.mp l1
          subst this
          exact k _ M h.2 w _ H (Wd.Le.refl w) R (.tup s2 l2 q2)
        · subst e
          have : _ = ([] : List D) := List.length_eq_zero_iff.mp l2
          subst this
          rw [List.append_nil] at h
          exact k _ M h.2 w _ H (Wd.Le.refl w) R (.tup s1 l1 q1)
        · exact k _ M h.2 _ _ _ (Wd.froz_le (R.nF hp)) (R.froz hp) (frozT R (RelL.append ⟨l1, q1⟩ ⟨l2, q2⟩) hp)
  · exact h.elim
theorem ox_add : OpX X (binaryOp .Add) addR := .of (.or op_add (.or op_add_str op_catA)) addR_d
def iaddR : DR2 := fun x y M Q => match x, y with
  | .int i, .int j => Q (.int (i + j)) M
  | .str a, .str b => a.length + b.length ≤ sizeLine ∧ Q (.str (a ++ b)) M
  | _, _ => False
theorem ox_iadd : OpX X (inplaceOp .Add) iaddR := .of (.or iop_add iop_add_str) fun w M H x y v u Q' Q R r1 r2 h k => by
  unfold iaddR at h
  split at h
  · cases r1; cases r2
    exact .inl ⟨_, _, rfl, rfl, k _ M h w _ H (Wd.Le.refl w) R (.int _)⟩
  · cases r1; cases r2
    exact .inr ⟨_, _, rfl, rfl, h.1, k _ M h.2 w _ H (Wd.Le.refl w) R (.str _)⟩
  · exact h.elim
/-- ints in, under C, a value out -/
def intR (C : Int → Int → Prop) (g : Int → Int → D) : DR2 := fun x y M Q => match x, y with
  | .int i, .int j => C i j ∧ Q (g i j) M
  | _, _ => False
def intR0 (g : Int → Int → D) : DR2 := fun x y M Q => match x, y with
  | .int i, .int j => Q (g i j) M
  | _, _ => False
theorem intR_d {C : Int → Int → Prop} {g : Int → Int → V} {g' : Int → Int → D} (hg : ∀ w i j, Rel (bgX X) w (g' i j) (g i j)) : OpD (bgX X) (rI C g) (intR C g') := by
  intro w M H x y v u Q' Q R r1 r2 h k
  unfold intR at h
  split at h
  · cases r1; cases r2
    exact ⟨_, _, rfl, rfl, h.1, k _ M h.2 w _ H (Wd.Le.refl w) R (hg w _ _)⟩
  · exact h.elim
theorem intR0_d {g : Int → Int → V} {g' : Int → Int → D} (hg : ∀ w i j, Rel (bgX X) w (g' i j) (g i j)) : OpD (bgX X) (rI0 g) (intR0 g') := by
  intro w M H x y v u Q' Q R r1 r2 h k
  unfold intR0 at h
  split at h
  · cases r1; cases r2
    exact ⟨_, _, rfl, rfl, k _ M h w _ H (Wd.Le.refl w) R (hg w _ _)⟩
  · exact h.elim
abbrev subR : DR2 := intR0 fun i j => .int (i - j)
abbrev fdivR : DR2 := intR CDivN fun i j => .int (i.fdiv j)
abbrev modR : DR2 := intR (fun _ j => j ≠ 0) fun i j => .int (i.fmod j)
abbrev powR : DR2 := intR CPow fun i j => .int (i ^ j.toNat)
abbrev shlR : DR2 := intR CPow fun i j => .int (i * 2 ^ j.toNat)
theorem ox_sub : OpX X (binaryOp .Sub) subR := .of op_sub (intR0_d fun _ _ _ => .int _)
theorem ox_isub : OpX X (inplaceOp .Sub) subR := .of iop_sub (intR0_d fun _ _ _ => .int _)
theorem ox_fdiv : OpX X (binaryOp .FloorDiv) fdivR := .of op_fdivN (intR_d fun _ _ _ => .int _)
theorem ox_mod : OpX X (binaryOp .Mod) modR := .of op_modN (intR_d fun _ _ _ => .int _)
theorem ox_pow : OpX X (binaryOp .Pow) powR := .of op_pow (intR_d fun _ _ _ => .int _)
/-- a text several times -/
theorem op_mulS : OpR X (binaryOp .Mult) (fun x y H Q => ∃ (z : Str) (n : Int), x = .str z ∧ y = .int n ∧ MulOk z n ∧ Q (.str (Txt.mul z n)) H) := by
  intro pins s σ H x y v u Q I rx ry h
  obtain ⟨z, n, rfl, rfl, ok, q⟩ := h
  obtain ⟨t, rfl⟩ := rx
  obtain ⟨t', rfl⟩ := ry
  exact SB.mul ok fun t'' k => ⟨.str _, H, I.tok _, ⟨_, rfl⟩, q⟩
def mulR : DR2 := fun x y M Q => match x, y with
  | .int i, .int j => CMul i j ∧ Q (.int (i * j)) M
  | .str z, .int n => MulOk z n ∧ Q (.str (Txt.mul z n)) M
  | _, _ => False
theorem ox_mul : OpX X (binaryOp .Mult) mulR := .of (.or op_mul op_mulS) fun w M H x y v u Q' Q R r1 r2 h k => by
  unfold mulR at h
  split at h
  · cases r1; cases r2
    exact .inl ⟨_, _, rfl, rfl, h.1, k _ M h.2 w _ H (Wd.Le.refl w) R (.int _)⟩
  · cases r1; cases r2
    exact .inr ⟨_, _, rfl, rfl, h.1, k _ M h.2 w _ H (Wd.Le.refl w) R (.str _)⟩
  · exact h.elim
def negR : DR1 := fun x M Q => match x with | .int i => Q (.int (-i)) M | _ => False
theorem ux_neg : UnX X (unaryOp .USub) negR := .of un_neg fun w M H x v Q' Q R r1 h k => by
  unfold negR at h
  split at h
  · cases r1
    exact ⟨_, rfl, k _ M h w _ H (Wd.Le.refl w) R (.int _)⟩
  · exact h.elim
/-! comparisons of ints and texts -/
def ordR (p : Int → Int → Bool) (q : Str → Str → Bool) : DR2 := fun x y M Q => match x, y with
  | .int i, .int j => Q (.bl (p i j)) M
  | .str a, .str b => Q (.bl (q a b)) M
  | _, _ => False
theorem ordR_of {op : CmpOp} {p : Int → Int → Bool} {q : Str → Str → Bool} (h1 : OpR X (compareOp op) (rI0 fun i j => .bl (p i j))) (h2 : OpR X (compareOp op) (fun x y H Q => ∃ i j, x = .str i ∧ y = .str j ∧ Q (.bl (q i j)) H)) :
    OpX X (compareOp op) (ordR p q) := .of (.or h1 h2) fun w M H x y v u Q' Q R r1 r2 h k => by
  unfold ordR at h
  split at h
  · cases r1; cases r2
    exact .inl ⟨_, _, rfl, rfl, k _ M h w _ H (Wd.Le.refl w) R (.bl _)⟩
  · cases r1; cases r2
    exact .inr ⟨_, _, rfl, rfl, k _ M h w _ H (Wd.Le.refl w) R (.bl _)⟩
  · exact h.elim
def ltS (i j : Str) : Bool := decide (i.cps.toList < j.cps.toList)
abbrev ltR : DR2 := ordR (fun i j => decide (i < j)) ltS
abbrev leR : DR2 := ordR (fun i j => decide (i ≤ j)) (fun i j => !ltS j i)
abbrev gtR : DR2 := ordR (fun i j => decide (j < i)) (fun i j => ltS j i)
abbrev geR : DR2 := ordR (fun i j => decide (j ≤ i)) (fun i j => !ltS i j)
theorem ox_lt : OpX X (compareOp .Lt) ltR := ordR_of op_lt op_lt_str
theorem ox_le : OpX X (compareOp .LtE) leR := ordR_of op_le op_le_str
theorem ox_gt : OpX X (compareOp .Gt) gtR := ordR_of op_gt op_gt_str
theorem ox_ge : OpX X (compareOp .GtE) geR := ordR_of op_ge op_ge_str
/-! is None -/
def D.isN : D → Bool | .non => true | _ => false
def isNR : DR2 := fun x y M Q => match y with | .non => Q (.bl x.isN) M | _ => False
def notNR : DR2 := fun x y M Q => match y with | .non => Q (.bl (!x.isN)) M | _ => False
theorem rel_non {b : Bg} {w : Wd} {d : D} {v : V} (r : Rel b w d v) : decide (v = .non) = d.isN := by
  cases r <;> simp [D.isN]
theorem ox_isN : OpX X (compareOp .Is) isNR := .of op_isN fun w M H x y v u Q' Q R r1 r2 h k => by
  unfold isNR at h
  split at h
  · cases r2
    refine ⟨rfl, k _ M h w _ H (Wd.Le.refl w) R ?_⟩
    rw [rel_non r1]
    exact .bl _
  · exact h.elim
theorem ox_notN : OpX X (compareOp .IsNot) notNR := .of op_notN fun w M H x y v u Q' Q R r1 r2 h k => by
  unfold notNR at h
  split at h
  · cases r2
    refine ⟨rfl, k _ M h w _ H (Wd.Le.refl w) R ?_⟩
    rw [rel_non r1]
    exact .bl _
  · exact h.elim
end

/-! ### == of data -/
mutual
inductive PyOf (M : Store) : D → PyData → Prop
  | non : PyOf M .non .none
  | bl (b : Bool) : PyOf M (.bl b) (.bool b)
  | int (i : Int) : PyOf M (.int i) (.int i)
  | str (x : Str) : PyOf M (.str x) (.str x)
  | tup {ds : List D} {ps : List PyData} : PyOfs M ds ps → PyOf M (.tup ds) (.tuple ps)
  | lst {ds : List D} {ps : List PyData} : PyOfs M ds ps → PyOf M (.lst ds) (.list ps)
  | ref {n : Nat} {ds : List D} {ps : List PyData} : M[n]? = some (.lst ds) → PyOfs M ds ps → PyOf M (.ref n) (.list ps)
inductive PyOfs (M : Store) : List D → List PyData → Prop
  | nil : PyOfs M [] []
  | cons {d : D} {ds : List D} {p : PyData} {ps : List PyData} : PyOf M d p → PyOfs M ds ps → PyOfs M (d :: ds) (p :: ps)
end
mutual
theorem PyOf.dp {b : Bg} {w : Wd} {M : Store} {H : Hp} (R : RM b w M H) : ∀ (p : PyData) {d : D} {v : V}, PyOf M d p → Rel b w d v → Dp b.K H v p
  | .none, _, _, q, r => by cases q; cases r; exact .non
  | .bool _, _, _, q, r => by cases q; cases r; exact .bl _
  | .int _, _, _, q, r => by cases q; cases r; exact .int _
  | .str _, _, _, q, r => by cases q; cases r; exact .str _
  | .dict _, _, _, q, r => by cases q
  | .tuple ps, _, _, q, r => by
    cases q with
    | tup qs =>
      cases r with
      | tup s l rr => exact .tup (sqT_mono R.sub s) (PyOfs.dp R ps qs ⟨l, rr⟩)
  | .list ps, _, _, q, r => by
    cases q with
    | lst qs =>
      cases r with
      | lst s l rr => exact .lst (sqL_mono R.sub s) (PyOfs.dp R ps qs ⟨l, rr⟩)
    | ref hM qs =>
      cases r with
      | ref ea =>
        obtain ⟨_, u, eu, c⟩ := R.cell _ _ _ ea hM
        cases c with
        | lst rr => exact .lst (.inl (.inl eu)) (PyOfs.dp R ps qs rr)
theorem PyOfs.dp {b : Bg} {w : Wd} {M : Store} {H : Hp} (R : RM b w M H) : ∀ (ps : List PyData) {ds : List D} {vs : List V}, PyOfs M ds ps → RelL b w ds vs → DpAll b.K H vs ps
  | [], _, vs, q, r => by
    cases q
    have : vs = [] := List.length_eq_zero_iff.mp r.1.symm
    subst this
    exact .nil
  | p :: ps, _, vs, q, r => by
    cases q with
    | cons q1 q2 =>
      cases vs with
      | nil => cases r.1
      | cons v vs => exact .cons (PyOf.dp R p q1 (r.2 0 _ v rfl rfl)) (PyOfs.dp R ps q2 ⟨Nat.succ.inj r.1, fun i a b e1 e2 => r.2 (i + 1) a b e1 e2⟩)
end
def eqR : DR2 := fun x y M Q => match x, y with
  | .int i, .int j => Q (.bl (decide (i = j))) M
  | .str a, .str b => Q (.bl (decide (a = b))) M
  | .bl a, .bl b => Q (.bl (decide (a = b))) M
  | _, _ => ∃ p q, PyOf M x p ∧ PyOf M y q ∧ SeqAt.shaped p = true ∧ SeqAt.shaped q = true ∧ Q (.bl (PyData.eqv p q)) M
def neR : DR2 := fun x y M Q => match x, y with
  | .int i, .int j => Q (.bl (!decide (i = j))) M
  | .str a, .str b => Q (.bl (!decide (a = b))) M
  | .bl a, .bl b => Q (.bl (!decide (a = b))) M
  | _, _ => ∃ p q, PyOf M x p ∧ PyOf M y q ∧ SeqAt.shaped p = true ∧ SeqAt.shaped q = true ∧ Q (.bl (!PyData.eqv p q)) M
theorem eqv_dec {α : Type} [DecidableEq α] (a b : α) : (a == b) = decide (a = b) := by
  by_cases h : a = b <;> simp [h]
section
variable {X : Cx}
theorem ox_eq (hu : X.A.units + 64 < cLine) : OpX X (compareOp .Eq) eqR := .of (.or op_eq (op_eqD hu)) fun w M H x y v u Q' Q R r1 r2 h k => by
  unfold eqR at h
  split at h
  · cases r1; cases r2
    refine .inl ⟨rfl, k _ M h w _ H (Wd.Le.refl w) R ?_⟩
    rw [dec_int, eqv_dec]
    exact .bl _
  · cases r1; cases r2
    refine .inl ⟨rfl, k _ M h w _ H (Wd.Le.refl w) R ?_⟩
    rw [dec_str, eqv_dec]
    exact .bl _
  · cases r1; cases r2
    refine .inl ⟨rfl, k _ M h w _ H (Wd.Le.refl w) R ?_⟩
    rw [dec_bl, eqv_dec]
    exact .bl _
  · obtain ⟨p, q, h1, h2, s1, s2, h⟩ := h
    exact .inr ⟨p, q, h1.dp R p r1, h2.dp R q r2, s1, s2, k _ M h w _ H (Wd.Le.refl w) R (.bl _)⟩
theorem ox_ne (hu : X.A.units + 64 < cLine) : OpX X (compareOp .NotEq) neR := .of (.or op_ne (op_neD hu)) fun w M H x y v u Q' Q R r1 r2 h k => by
  unfold neR at h
  split at h
  · cases r1; cases r2
    refine .inl ⟨rfl, k _ M h w _ H (Wd.Le.refl w) R ?_⟩
    rw [dec_int, eqv_dec]
    exact .bl _
  · cases r1; cases r2
    refine .inl ⟨rfl, k _ M h w _ H (Wd.Le.refl w) R ?_⟩
    rw [dec_str, eqv_dec]
    exact .bl _
  · cases r1; cases r2
    refine .inl ⟨rfl, k _ M h w _ H (Wd.Le.refl w) R ?_⟩
    rw [dec_bl, eqv_dec]
    exact .bl _
  · obtain ⟨p, q, h1, h2, s1, s2, h⟩ := h
    exact .inr ⟨p, q, h1.dp R p r1, h2.dp R q r2, s1, s2, k _ M h w _ H (Wd.Le.refl w) R (.bl _)⟩

/-! ### built-ins by name -/
variable {a b e : Expr} {es : List Expr} {ta : DTE} {tr : DTA} {pos p : Pos} {x : Str}
def dCB (dr : DRC) (t : DTA) : DTE := fun ρ M Q => t ρ M fun xs M1 => dr xs M1 Q
theorem up_cb {b : Bg} {r : List V → Hp → VK → Prop} {dr : DRC} {t : DTA} (hr : CallD b r dr) {σ : St} {H : Hp} {Q : VK} (h : upE b (dCB dr t) σ H Q) : tCB r (upA b t) σ H Q := by
  obtain ⟨w, ρ, M, Q', R, h, k⟩ := h
  refine ⟨w, ρ, M, _, R, h, fun xs M1 h1 w1 vs H1 l1 R1 r1 => ?_⟩
  exact hr w1 M1 H1 xs vs Q' Q R1.m r1 h1 fun d M' q w' z H' l R' rz => k d M' q w' z H' (l1.trans l) ⟨R', R1.e.mono l⟩ rz
theorem de_callB {id : String} {dr : DRC} (hc : CallX X (.builtin id) dr) (hg : Gl X x) (hm : X.mg x = none) (hv : bootBuiltins x = some (.builtin id)) (ha : DA X (e :: es) tr) (hn : x ≠ "__name__" := by decide) (hdb : (x == ("__debug__" : Str)) = false := by decide)
    (he : starEach (e :: es) X.env = (false, eval e X.env) :: starEach es X.env := by rfl) (hpl : (backTo pos (starEach es X.env)).any (·.1) = false := by rfl) : DE X (.Call (.Name x p) (e :: es) [] pos) (dCB dr tr) :=
  peM (pe_callB hc hg hm hv ha hn hdb he hpl) fun _ _ _ h => up_cb rCX_d h
theorem de_callTy {T : String} {dr : DRC} (hc : CallX X (.type T) dr) (hg : Gl X x) (hm : X.mg x = none) (hv : bootBuiltins x = some (.type T)) (ha : DA X (e :: es) tr) (hn : x ≠ "__name__" := by decide) (hdb : (x == ("__debug__" : Str)) = false := by decide)
    (he : starEach (e :: es) X.env = (false, eval e X.env) :: starEach es X.env := by rfl) (hpl : (backTo pos (starEach es X.env)).any (·.1) = false := by rfl) : DE X (.Call (.Name x p) (e :: es) [] pos) (dCB dr tr) :=
  peM (pe_callTy hc hg hm hv ha hn hdb he hpl) fun _ _ _ h => up_cb rCX_d h
/-- by the first of the rules -/
theorem CallX.or {f : Value} {r r' : DRC} (h : CallX X f r) (h' : CallX X f r') : CallX X f (fun xs M Q => r xs M Q ∨ r' xs M Q) := fun pins s σ H xs us Q I rx ⟨w, M, dx, Q', R, r1, q, k⟩ => by
  rcases q with q | q
  · exact h pins s σ H xs us Q I rx ⟨w, M, dx, Q', R, r1, q, k⟩
  · exact h' pins s σ H xs us Q I rx ⟨w, M, dx, Q', R, r1, q, k⟩
theorem RelL.one {b : Bg} {w : Wd} {d : D} {vs : List V} (r : RelL b w [d] vs) : ∃ v, vs = [v] ∧ Rel b w d v := by
  match vs, r with
  | [v], r => exact ⟨v, rfl, r.2 0 d v rfl rfl⟩
  | [], r => cases r.1
  | _ :: _ :: _, r => exact absurd r.1 (by simp)
theorem RelL.two {b : Bg} {w : Wd} {d e : D} {vs : List V} (r : RelL b w [d, e] vs) : ∃ v u, vs = [v, u] ∧ Rel b w d v ∧ Rel b w e u := by
  match vs, r with
  | [v, u], r => exact ⟨v, u, rfl, r.2 0 d v rfl rfl, r.2 1 e u rfl rfl⟩
  | [], r => cases r.1
  | [_], r => exact absurd r.1 (by simp)
  | _ :: _ :: _ :: _, r => exact absurd r.1 (by simp)
theorem RelL.zero {b : Bg} {w : Wd} {vs : List V} (r : RelL b w [] vs) : vs = [] := List.length_eq_zero_iff.mp r.1.symm
def lenR : DRC := fun xs M Q => match xs with
  | [.str x] => x.length ≤ sizeLine ∧ Q (.int x.length) M
  | [x] => match viewS M x with | some ds => Q (.int ds.length) M | none => False
  | _ => False
theorem cx_len : CallX X (.builtin "len") lenR := .of (.or call_len_str call_len_seq) fun w M H xs vs Q' Q R r1 h k => by
  unfold lenR at h
  split at h
  · obtain ⟨v, rfl, r⟩ := r1.one
    cases r
    exact .inl ⟨_, rfl, h.1, k _ M h.2 w _ H (Wd.Le.refl w) R (.int _)⟩
  · obtain ⟨v, rfl, r⟩ := r1.one
    split at h
    · rename_i ds e
      obtain ⟨a, us, rfl, s, q⟩ := viewS_at R r e
      exact .inr ⟨a, us, rfl, s, by rw [← q.1]; exact k _ M h w _ H (Wd.Le.refl w) R (.int _)⟩
    · exact h.elim
  · exact h.elim
def absR : DRC := fun xs M Q => match xs with | [.int i] => Q (.int (if i < 0 then -i else i)) M | _ => False
theorem cx_abs : CallX X (.builtin "abs") absR := .of call_abs fun w M H xs vs Q' Q R r1 h k => by
  unfold absR at h
  split at h
  · obtain ⟨v, rfl, r⟩ := r1.one
    cases r
    exact ⟨_, rfl, k _ M h w _ H (Wd.Le.refl w) R (.int _)⟩
  · exact h.elim
def max2R : DRC := fun xs M Q => match xs with | [.int i, .int j] => Q (.int (if j > i then j else i)) M | _ => False
def min2R : DRC := fun xs M Q => match xs with | [.int i, .int j] => Q (.int (if j < i then j else i)) M | _ => False
theorem cx_max2 (hc : X.calm = true) : CallX X (.builtin "max") max2R := .of (call_max2 hc) fun w M H xs vs Q' Q R r1 h k => by
  unfold max2R at h
  split at h
  · obtain ⟨v, u, rfl, r, q⟩ := r1.two
    cases r; cases q
    exact ⟨_, _, rfl, k _ M h w _ H (Wd.Le.refl w) R (.int _)⟩
  · exact h.elim
theorem cx_min2 (hc : X.calm = true) : CallX X (.builtin "min") min2R := .of (call_min2 hc) fun w M H xs vs Q' Q R r1 h k => by
  unfold min2R at h
  split at h
  · obtain ⟨v, u, rfl, r, q⟩ := r1.two
    cases r; cases q
    exact ⟨_, _, rfl, k _ M h w _ H (Wd.Le.refl w) R (.int _)⟩
  · exact h.elim
def intCR : DRC := fun xs M Q => match xs with | [.int i] => Q (.int i) M | [.bl c] => Q (.int (if c then 1 else 0)) M | _ => False
theorem cx_int : CallX X (.type "int") intCR := .of call_int1 fun w M H xs vs Q' Q R r1 h k => by
  unfold intCR at h
  split at h
  · obtain ⟨v, rfl, r⟩ := r1.one
    cases r
    exact .inl ⟨_, rfl, k _ M h w _ H (Wd.Le.refl w) R (.int _)⟩
  · obtain ⟨v, rfl, r⟩ := r1.one
    cases r
    exact .inr ⟨_, rfl, k _ M h w _ H (Wd.Le.refl w) R (.int _)⟩
  · exact h.elim
/-- the signs of a text -/
def signs (x : Str) : List Str := x.cps.toList.map fun c => ⟨#[c]⟩
theorem call_list_text (hc : X.calm = true) : CallR X (.type "list") (fun xs H Q => ∃ x, xs = [.str x] ∧ x.length ≤ sizeLine ∧ ∀ p, H p = none → Q (.ref p) (upd H p (.lst ((signs x).map V.str)))) := by
  intro pins s σ H xs us Q I rx h
  obtain ⟨x, rfl, hz, q⟩ := h
  obtain ⟨u, rfl, ru⟩ := rx.one
  obtain ⟨t, rfl⟩ := ru
  refine call_list_str (I.ok.hd hc) x t (fun h' tk acc' c' hk e it => ?_) hz
  have hf : H s.heap.objs.size = none := I.hok.fresh (Nat.le_refl _)
  have hv : Vals ((signs x).map V.str) acc'.toList := by
    have hsz : acc'.size = x.cps.size := it.1
    have gen : ∀ (l : List V) (us : List Value), l.length = us.length → (∀ (i : Nat) (v : V) (u : Value), l[i]? = some v → us[i]? = some u → RelV v u) → Vals l us := by
      intro l
      induction l with
      | nil =>
        intro us hl _
        have : us = [] := List.length_eq_zero_iff.mp hl.symm
        subst this
        exact .nil
      | cons v l ih =>
        intro us hl h
        cases us with
        | nil => cases hl
        | cons u us => exact .cons (h 0 v u rfl rfl) (ih us (Nat.succ.inj hl) fun i v u e1 e2 => h (i + 1) v u e1 e2)
    refine gen _ _ (by simp [signs, hsz]) fun i v u e1 e2 => ?_
    obtain ⟨c, t, ec, rfl⟩ := it.2 i u (by simpa using e2)
    have e3 : x.cps.toList[i]? = some c := by simpa using ec
    rw [signs, List.map_map, List.getElem?_map, e3] at e1
    cases e1
    exact ⟨t, rfl⟩
  refine ⟨.ref s.heap.objs.size, _, I.laid (t' := tk) hk (Nat.le_refl _) ?_, rfl, q _ hf⟩
  refine ⟨?_, acc'.toList, c', hv, by simpa using e⟩
  show ((signs x).map V.str).length ≤ sizeLine
  rw [List.length_map, signs, List.length_map]
  exact hz
end
end DL

set_option Elab.async false
set_option linter.all false
set_option maxRecDepth 100000
set_option maxHeartbeats 2000000
/-! DLDict: dicts over data: keys ints and texts (dk), keys tuples, nested (dn). -/
namespace DL
open PySem L2
open PyProof.Rows hiding St

/-! ### data's keys -/
def dkey : D → Option Key
  | .int i => some (.inl i)
  | .str x => some (.inr x)
  | _ => none
mutual
def nkey : D → Option NestedKey
  | .non => some .none
  | .int i => some (.num i)
  | .str x => some (.text x)
  | .tup ds => (nkeys ds).map .tup
  | _ => none
def nkeys : List D → Option (List NestedKey)
  | [] => some []
  | d :: r => match nkey d, nkeys r with | some k, some ks => some (k :: ks) | _, _ => none
end
/-- a tuple as a key -/
def tkey : D → Option NestedKey
  | .tup ds => (nkeys ds).map .tup
  | _ => none
mutual
theorem nkey_kD : ∀ {d : D} {k : NestedKey}, nkey d = some k → d = kD k
  | .non, _, h => by cases h; rfl
  | .int _, _, h => by cases h; rfl
  | .str _, _, h => by cases h; rfl
  | .bl _, _, h => by cases h
  | .lst _, _, h => by cases h
  | .dk _, _, h => by cases h
  | .dn _, _, h => by cases h
  | .ref _, _, h => by cases h
  | .ty _, _, h => by cases h
  | .tup ds, k, h => by
    simp only [nkey, Option.map_eq_some_iff] at h
    obtain ⟨ks, e, rfl⟩ := h
    rw [nkeys_kDs e]
    rfl
theorem nkeys_kDs : ∀ {ds : List D} {ks : List NestedKey}, nkeys ds = some ks → ds = kDs ks
  | [], _, h => by cases h; rfl
  | d :: r, ks, h => by
    simp only [nkeys] at h
    split at h
    · rename_i k ks' e1 e2
      cases h
      rw [kDs, ← nkey_kD e1, ← nkeys_kDs e2]
    · cases h
end
theorem tkey_kD {d : D} {k : NestedKey} (h : tkey d = some k) : d = kD k ∧ ∃ ks, k = .tup ks := by
  cases d with
  | tup ds =>
    refine ⟨nkey_kD (d := .tup ds) h, ?_⟩
    simp only [tkey, Option.map_eq_some_iff] at h
    obtain ⟨ks, _, rfl⟩ := h
    exact ⟨ks, rfl⟩
  | _ => cases h

section
variable {κ : Type} [DecidableEq κ]
def aGet {α : Type} (kvs : List (κ × α)) (k : κ) : Option α := (kvs.find? fun p => decide (p.1 = k)).map (·.2)
def aPut {α : Type} (kvs : List (κ × α)) (k : κ) (v : α) : List (κ × α) := if (aGet kvs k).isSome then kvs.map (fun p => if p.1 = k then (p.1, v) else p) else kvs ++ [(k, v)]
theorem aGet_nil {α : Type} (k : κ) : aGet ([] : List (κ × α)) k = none := rfl
theorem aGet_cons {α : Type} (p : κ × α) (r : List (κ × α)) (k : κ) : aGet (p :: r) k = if p.1 = k then some p.2 else aGet r k := by
  by_cases h : p.1 = k <;> simp [aGet, List.find?_cons, h]
end
theorem valV_eq {κ : Type} [DecidableEq κ] (kvs : List (κ × V)) (k : κ) : valV kvs k = aGet kvs k := rfl
theorem putK_eq {κ : Type} [DecidableEq κ] (kvs : List (κ × V)) (k : κ) (v : V) : putK kvs k v = aPut kvs k v := by
  unfold putK aPut
  rw [valV_any k kvs, valV_eq]
theorem aGet_rel {κ : Type} [DecidableEq κ] {R : D → V → Prop} : ∀ {ds : List (κ × D)} {vs : List (κ × V)}, ds.map (·.1) = vs.map (·.1) → (∀ (i : Nat) (d : κ × D) (v : κ × V), ds[i]? = some d → vs[i]? = some v → R d.2 v.2) → ∀ k,
    (aGet ds k = none ∧ aGet vs k = none) ∨ ∃ d v, aGet ds k = some d ∧ aGet vs k = some v ∧ R d v
  | [], [], _, _, _ => .inl ⟨rfl, rfl⟩
  | [], _ :: _, h, _, _ => by cases h
  | _ :: _, [], h, _, _ => by cases h
  | d :: ds, v :: vs, h, q, k => by
    simp only [List.map_cons, List.cons.injEq] at h
    rw [aGet_cons, aGet_cons]
    by_cases e : d.1 = k
    · rw [if_pos e, if_pos (h.1 ▸ e)]
      exact .inr ⟨_, _, rfl, rfl, q 0 d v rfl rfl⟩
    · rw [if_neg e, if_neg (h.1 ▸ e)]
      exact aGet_rel h.2 (fun i a b e1 e2 => q (i + 1) a b e1 e2) k
theorem aPut_keys {κ : Type} [DecidableEq κ] {α β : Type} {ds : List (κ × α)} {vs : List (κ × β)} (h : ds.map (·.1) = vs.map (·.1)) (k : κ) (d : α) (v : β) (hs : (aGet ds k).isSome = (aGet vs k).isSome) : (aPut ds k d).map (·.1) = (aPut vs k v).map (·.1) := by
  unfold aPut
  rw [hs]
  split
  · rw [List.map_map, List.map_map]
    have e : ∀ {γ : Type} (l : List (κ × γ)) (c : γ), l.map ((·.1) ∘ fun p => if p.1 = k then (p.1, c) else p) = l.map (·.1) := fun l c => List.map_congr_left fun p _ => by
      by_cases e : p.1 = k <;> simp [e]
    rw [e, e, h]
  · simp [h]
theorem aPut_rel {κ : Type} [DecidableEq κ] {R : D → V → Prop} {ds : List (κ × D)} {vs : List (κ × V)} (h : ds.map (·.1) = vs.map (·.1)) (q : ∀ (i : Nat) (d : κ × D) (v : κ × V), ds[i]? = some d → vs[i]? = some v → R d.2 v.2) (k : κ) {d : D} {v : V} (r : R d v) :
    (aPut ds k d).map (·.1) = (aPut vs k v).map (·.1) ∧ ∀ (i : Nat) (x : κ × D) (y : κ × V), (aPut ds k d)[i]? = some x → (aPut vs k v)[i]? = some y → R x.2 y.2 := by
  have hs : (aGet ds k).isSome = (aGet vs k).isSome := by
    rcases aGet_rel h q k with ⟨e1, e2⟩ | ⟨_, _, e1, e2, _⟩ <;> rw [e1, e2] <;> rfl
  refine ⟨aPut_keys h k d v hs, fun i x y ex ey => ?_⟩
  unfold aPut at ex ey
  rw [hs] at ex
  by_cases c : (aGet vs k).isSome = true
  · rw [if_pos c] at ex ey
    rw [List.getElem?_map] at ex ey
    obtain ⟨x', ex', rfl⟩ := Option.map_eq_some_iff.mp ex
    obtain ⟨y', ey', rfl⟩ := Option.map_eq_some_iff.mp ey
    have ek : x'.1 = y'.1 := by
      have := congrArg (fun l => l[i]?) h
      simp [List.getElem?_map, ex', ey'] at this
      exact this
    by_cases e : x'.1 = k
    · rw [if_pos e, if_pos (ek ▸ e)]
      exact r
    · rw [if_neg e, if_neg (ek ▸ e)]
      exact q i x' y' ex' ey'
  · rw [if_neg c] at ex ey
    have hl := len_of_map h
    by_cases hi : i < ds.length
    · rw [List.getElem?_append_left hi] at ex
      rw [List.getElem?_append_left (hl ▸ hi)] at ey
      exact q i x y ex ey
    · rw [List.getElem?_append_right (Nat.le_of_not_lt hi)] at ex
      rw [List.getElem?_append_right (by rw [← hl]; exact Nat.le_of_not_lt hi), ← hl] at ey
      have hz : i - ds.length = 0 := by
        have := (List.getElem?_eq_some_iff.mp ex).1
        simp at this
        omega
      rw [hz] at ex ey
      cases ex; cases ey
      exact r

/-! ### nested keys in the heap -/
section
variable {X : Cx} {pins : List (Addr × Obj)} {σ : St} {H : Hp} {s : Shared} {w : Wd} {M : Store}
mutual
theorem nested_is (I : Inv X pins σ H s) (R : RM (bgX X) w M H) : ∀ (k : NestedKey) {v : V} {u : Value}, Rel (bgX X) w (kD k) v → RelV v u → NestedIs s.heap k u
  | .none, _, _, r, q => by cases r; cases q; exact .none
  | .num i, _, _, r, q => by cases r; obtain ⟨t, rfl⟩ := q; exact .int _ _
  | .text i, _, _, r, q => by cases r; obtain ⟨t, rfl⟩ := q; exact .text _ _
  | .tup ks, v, u, r, q => by
    have r' : Rel (bgX X) w (.tup (kDs ks)) v := r
    cases r' with
    | tup sq l rr =>
      cases q
      obtain ⟨its, rv, ⟨o, ho, hc, n, hd⟩, _⟩ := I.tuple (sqT_mono R.sub sq)
      refine .tup ho hc hd ?_
      have := nested_all I R ks (vs := _) (us := its) ⟨l, rr⟩ rv
      simpa using this
theorem nested_all (I : Inv X pins σ H s) (R : RM (bgX X) w M H) : ∀ (ks : List NestedKey) {vs : List V} {us : List Value}, RelL (bgX X) w (kDs ks) vs → Vals vs us → NestedAll s.heap ks us
  | [], vs, us, r, q => by
    have e : vs = [] := List.length_eq_zero_iff.mp r.1.symm
    subst e
    cases q
    exact .nil
  | k :: ks, vs, us, r, q => by
    cases vs with
    | nil => cases r.1
    | cons v vs =>
      cases q with
      | cons q1 q2 => exact .cons (nested_is I R k (r.2 0 _ v rfl rfl) q1) (nested_all I R ks ⟨Nat.succ.inj r.1, fun i a b e1 e2 => r.2 (i + 1) a b e1 e2⟩ q2)
end
/-- a dict with nested keys that is read: where it stands -/
structure DnAt (b : Bg) (w : Wd) (H : Hp) (a : Addr) (ds : List (NestedKey × D)) (xs : List (NestedKey × Addr × Value)) (f : Nat → V) : Prop where
  at_ : ∃ ob, H a = some (dnO b a ob xs)
  keys : ds.map (·.1) = xs.map (·.1)
  vals : ∀ (i : Nat) (x : NestedKey × Addr × Value), xs[i]? = some x → RelV (f i) x.2.2
  ks : ∀ (i : Nat) (x : NestedKey × Addr × Value), xs[i]? = some x → Rel b w (kD x.1) (.ref x.2.1)
  rel : ∀ (i : Nat) (d : NestedKey × D), ds[i]? = some d → Rel b w d.2 (f i)
theorem DnAt.of {b : Bg} {w : Wd} {M : Store} {H : Hp} {ds : List (NestedKey × D)} {v : V} (R : RM b w M H) (r : Rel b w (.dn ds) v) : ∃ a xs f, v = .ref a ∧ DnAt b w H a ds xs f := by
  cases r with
  | dn e k q1 q2 q3 => exact ⟨_, _, _, rfl, ⟨_, R.sub _ _ e⟩, k, q1, q2, q3⟩
theorem DnAt.cell {b : Bg} {w : Wd} {M : Store} {H : Hp} {ds : List (NestedKey × D)} {v : V} {n : Nat} (R : RM b w M H) (r : Rel b w (.ref n) v) (e : M[n]? = some (.dn ds)) : ∃ a xs f, v = .ref a ∧ w.as[n]? = some a ∧ DnAt b w H a ds xs f := by
  cases r with
  | ref ea =>
    obtain ⟨_, u, eu, c⟩ := R.cell _ _ _ ea e
    cases c with
    | dn k q1 q2 q3 => exact ⟨_, _, _, rfl, ea, ⟨_, eu⟩, k, q1, q2, q3⟩
theorem DnAt.dict {a : Addr} {ds : List (NestedKey × D)} {xs : List (NestedKey × Addr × Value)} {f : Nat → V} (I : Inv X pins σ H s) (R : RM (bgX X) w M H) (d : DnAt (bgX X) w H a ds xs f) :
    s.heap.DictOfH (nestedKind X.prog X.w) a xs ∧ xs.length ≤ sizeLine ∧ (a == sysModules) = false := by
  obtain ⟨o, ho⟩ := d.at_
  obtain ⟨⟨h1, es, ep, h2, h3, h4, h5, h6, h7, h8⟩, _⟩ := I.hok a _ ho
  refine ⟨⟨o, es, ep, h1, h2, h3, h4, fun x hx => ?_, h5⟩, h6, h7⟩
  obtain ⟨i, e⟩ := List.getElem?_of_mem hx
  exact ⟨nested_is I R x.1 (d.ks i x e) rfl, h8 x hx⟩
theorem DnAt.find : ∀ {ds : List (NestedKey × D)} {xs : List (NestedKey × Addr × Value)} {f : Nat → V} {R : D → V → Prop}, ds.map (·.1) = xs.map (·.1) → (∀ (i : Nat) (x : NestedKey × Addr × Value), xs[i]? = some x → RelV (f i) x.2.2) → (∀ (i : Nat) (d : NestedKey × D), ds[i]? = some d → R d.2 (f i)) → ∀ k,
    (aGet ds k = none ∧ atKey xs k = none) ∨ ∃ d v p, aGet ds k = some d ∧ atKey xs k = some p ∧ RelV v p.2 ∧ R d v
  | [], [], _, _, _, _, _, _ => .inl ⟨rfl, rfl⟩
  | [], _ :: _, _, _, h, _, _, _ => by cases h
  | _ :: _, [], _, _, h, _, _, _ => by cases h
  | d :: ds, x :: xs, f, R, h, q1, q2, k => by
    simp only [List.map_cons, List.cons.injEq] at h
    rw [aGet_cons]
    have e' : atKey (x :: xs) k = if x.1 = k then some x.2 else atKey xs k := by
      by_cases e : x.1 = k <;> simp [atKey, List.find?_cons, e]
    rw [e']
    by_cases e : d.1 = k
    · rw [if_pos e, if_pos (h.1 ▸ e)]
      exact .inr ⟨_, _, _, rfl, rfl, q1 0 x rfl, q2 0 d rfl⟩
    · rw [if_neg e, if_neg (h.1 ▸ e)]
      exact DnAt.find (f := fun i => f (i + 1)) h.2 (fun i x e => q1 (i + 1) x e) (fun i d e => q2 (i + 1) d e) k

/-- what stands at a key: none: it is no dict, or no such key can be in it -/
def dGet (M : Store) (x y : D) : Option (Option D) :=
  match x with
  | .dk kvs => (dkey y).map (aGet kvs)
  | .dn kvs => (tkey y).bind fun k => if k.depth ≤ 8 then some (aGet kvs k) else none
  | .ref n => match M[n]? with
    | some (.dk kvs) => (dkey y).map (aGet kvs)
    | some (.dn kvs) => (tkey y).bind fun k => if k.depth ≤ 8 then some (aGet kvs k) else none
    | _ => none
  | _ => none
theorem room8 {A : Around} (hu : A.units + 64 < cLine) : (nestedKind X.prog X.w).room A.in1 := by
  show A.units + 1 + 8 < cLine
  omega
/-- the two kinds at once -/
inductive DicAt (b : Bg) (w : Wd) (H : Hp) (a : Addr) (y : D) (u : V) : Option D → Prop
  | dk {o : Option D} {ov : Option V} : DGet H a u ov → (o = none ∧ ov = none ∨ ∃ d v, o = some d ∧ ov = some v ∧ Rel b w d v) → DicAt b w H a y u o
  | dn {ds : List (NestedKey × D)} {xs : List (NestedKey × Addr × Value)} {f : Nat → V} {k : NestedKey} {p : Addr} : DnAt b w H a ds xs f → y = kD k → u = .ref p → k.depth ≤ 8 → DicAt b w H a y u (aGet ds k)
theorem dkey_v {b : Bg} {w : Wd} {y : D} {u : V} {k : Key} (e : dkey y = some k) (r : Rel b w y u) : u = kV k := by
  cases r <;> cases e <;> rfl
theorem tkey_v {b : Bg} {w : Wd} {y : D} {u : V} {k : NestedKey} (e : tkey y = some k) (r : Rel b w y u) : y = kD k ∧ ∃ p, u = .ref p := by
  obtain ⟨h, ks, rfl⟩ := tkey_kD e
  refine ⟨h, ?_⟩
  rw [h] at r
  cases r with
  | tup _ _ _ => exact ⟨_, rfl⟩
theorem dic_at {b : Bg} {w : Wd} {M : Store} {H : Hp} {x y : D} {v u : V} {o : Option D} (R : RM b w M H) (r1 : Rel b w x v) (r2 : Rel b w y u) (e : dGet M x y = some o) : ∃ a, v = .ref a ∧ DicAt b w H a y u o := by
  have caseK : ∀ {kvs : List (Key × D)} {vs : List (Key × V)} {a : Addr} {k : Key}, dkey y = some k → Rd H a (.dK vs) → kvs.map (·.1) = vs.map (·.1) → (∀ (i : Nat) (d : Key × D) (v : Key × V), kvs[i]? = some d → vs[i]? = some v → Rel b w d.2 v.2) → DicAt b w H a y u (aGet kvs k) := by
    intro kvs vs a k ek rd hk hq
    rw [dkey_v ek r2]
    exact .dk (.inl ⟨vs, k, rd, rfl, rfl⟩) (aGet_rel (R := Rel b w) hk hq k)
  cases r1 with
  | @dk a kvs ds s l q =>
    simp only [dGet, Option.map_eq_some_iff] at e
    obtain ⟨k, ek, rfl⟩ := e
    exact ⟨_, rfl, caseK ek (rd_mono R.sub s) l q⟩
  | dn s l q1 q2 q3 =>
    simp only [dGet, Option.bind_eq_some_iff] at e
    obtain ⟨k, ek, e⟩ := e
    obtain ⟨ey, p, rfl⟩ := tkey_v ek r2
    split at e
    · rename_i hd
      cases e
      exact ⟨_, rfl, .dn ⟨⟨_, R.sub _ _ s⟩, l, q1, q2, q3⟩ ey rfl hd⟩
    · cases e
  | ref ea =>
    simp only [dGet] at e
    split at e
    · rename_i hM
      obtain ⟨_, ho, eu, c⟩ := R.cell _ _ _ ea hM
      cases c with
      | dk l q =>
        simp only [Option.map_eq_some_iff] at e
        obtain ⟨k, ek, rfl⟩ := e
        exact ⟨_, rfl, caseK ek (.inl eu) l q⟩
    · rename_i hM
      obtain ⟨_, ho, eu, c⟩ := R.cell _ _ _ ea hM
      cases c with
      | dn l q1 q2 q3 =>
        simp only [Option.bind_eq_some_iff] at e
        obtain ⟨k, ek, e⟩ := e
        obtain ⟨ey, p, rfl⟩ := tkey_v ek r2
        split at e
        · rename_i hd
          cases e
          exact ⟨_, rfl, .dn ⟨⟨_, eu⟩, l, q1, q2, q3⟩ ey rfl hd⟩
        · cases e
    · cases e
  | _ => cases e
theorem DicAt.typeIs {a : Addr} {y : D} {u : V} {o : Option D} (I : Inv X pins σ H s) (R : RM (bgX X) w M H) (d : DicAt (bgX X) w H a y u o) : s.TypeIs (.ref a) "dict" := by
  cases d with
  | dk g _ => exact dict_typeIs I g
  | dn d _ _ _ => exact (d.dict I R).1.typeIs
end

/-! ### in, not in, d[k] -/
section
variable {X : Cx}
theorem len_aPut {κ α : Type} [DecidableEq κ] (kvs : List (κ × α)) (k : κ) (v : α) : (aPut kvs k v).length ≤ kvs.length + 1 := by
  unfold aPut
  split <;> simp
theorem vIs {pins : List (Addr × Obj)} {σ : St} {H : Hp} {s : Shared} {w : Wd} {M : Store} {k : NestedKey} {p : Addr} {y : D} (I : Inv X pins σ H s) (R : RM (bgX X) w M H) (e : y = kD k) (r : Rel (bgX X) w y (.ref p)) (hd : k.depth ≤ 8) :
    (nestedKind X.prog X.w).is s.heap k p := ⟨nested_is I R k (u := .ref p) (e ▸ r) (show RelV (.ref p) (.ref p) from rfl), hd⟩
/-- y in x, a dict -/
def inR : DR2 := fun y x M Q => match dGet M x y with | some o => Q (.bl o.isSome) M | none => False
def notInR : DR2 := fun y x M Q => match dGet M x y with | some o => Q (.bl (!o.isSome)) M | none => False
theorem ox_inD (hu : X.A.units + 64 < cLine) : OpX X (compareOp .In) inR := by
  intro pins s σ H y x uv xv Q I ry rx ⟨w, M, dy, dx, Q', R, r1, r2, q, k⟩
  unfold inR at q
  split at q
  · rename_i o e
    obtain ⟨a, rfl, d⟩ := dic_at R r2 r1 e
    cases rx
    cases d with
    | @dk o ov g hg =>
      have eo : o.isSome = ov.isSome := by rcases hg with ⟨e1, e2⟩ | ⟨_, _, e1, e2, _⟩ <;> (rw [e1, e2]; try rfl)
      exact d_in (by omega) I g ry fun s' I' => ⟨.bl (o.isSome), H, I', (by rw [eo]; rfl), k _ M q w _ H (Wd.Le.refl w) R (.bl _)⟩
    | @dn ds xs f kk p d ey ep hd =>
      subst ep
      cases ry
      obtain ⟨dd, hz, hs⟩ := d.dict I R
      refine wpAny_in_heap (room8 hu) (vIs I R ey r1 hd) hs dd ⟨.bl _, H, I.tok _, rfl, ?_⟩
      have eo := DnAt.find (R := fun _ _ => True) d.keys d.vals (fun _ _ _ => trivial) kk
      rcases eo with ⟨e1, e2⟩ | ⟨_, _, _, e1, e2, _⟩ <;> (rw [e2]; rw [e1] at q; exact k _ M q w _ H (Wd.Le.refl w) R (.bl _))
  · exact q.elim
theorem ox_notInD (hu : X.A.units + 64 < cLine) : OpX X (compareOp .NotIn) notInR := by
  intro pins s σ H y x uv xv Q I ry rx ⟨w, M, dy, dx, Q', R, r1, r2, q, k⟩
  unfold notInR at q
  split at q
  · rename_i o e
    obtain ⟨a, rfl, d⟩ := dic_at R r2 r1 e
    cases rx
    cases d with
    | @dk o ov g hg =>
      have eo : o.isSome = ov.isSome := by rcases hg with ⟨e1, e2⟩ | ⟨_, _, e1, e2, _⟩ <;> (rw [e1, e2]; try rfl)
      exact d_notIn (by omega) I g ry fun s' I' => ⟨.bl (!o.isSome), H, I', (by rw [eo]; rfl), k _ M q w _ H (Wd.Le.refl w) R (.bl _)⟩
    | @dn ds xs f kk p d ey ep hd =>
      subst ep
      cases ry
      obtain ⟨dd, hz, hs⟩ := d.dict I R
      refine wpAny_notIn_heap (room8 hu) (vIs I R ey r1 hd) hs dd ⟨.bl _, H, I.tok _, rfl, ?_⟩
      have eo := DnAt.find (R := fun _ _ => True) d.keys d.vals (fun _ _ _ => trivial) kk
      rcases eo with ⟨e1, e2⟩ | ⟨_, _, _, e1, e2, _⟩ <;> (rw [e2]; rw [e1] at q; exact k _ M q w _ H (Wd.Le.refl w) R (.bl _))
  · exact q.elim
/-- x[y], a dict, the key there: by getItem -/
theorem dic_item (hu : X.A.units + 64 < cLine) {pins : List (Addr × Obj)} {s : Shared} {σ : St} {H : Hp} {w : Wd} {M : Store} {x y d : D} {v u : V} {vv uu : Value} {E : Value → Shared → Prop} {Q : VK} {Q' : DK} (I : Inv X pins σ H s) (rv : RelV v vv) (ru : RelV u uu)
    (R : RM (bgX X) w M H) (r1 : Rel (bgX X) w x v) (r2 : Rel (bgX X) w y u) (e : dGet M x y = some (some d)) (q : Q' d M)
    (k : ∀ d M', Q' d M' → ∀ (w' : Wd) (z : V) (H' : Hp), w.Le w' → RM (bgX X) w' M' H' → Rel (bgX X) w' d z → Q z H') :
    s.TypeIs vv "dict" ∧ wpAny (model X.prog X.w) X.A (getItem vv uu) (EP X pins σ Q) E s := by
  obtain ⟨a, rfl, g⟩ := dic_at R r1 r2 e
  cases rv
  refine ⟨g.typeIs I R, ?_⟩
  generalize ho : some d = o at g
  cases g with
  | dk g hg =>
    rcases hg with ⟨e1, _⟩ | ⟨d', v', e1, e2, rd⟩
    · rw [e1] at ho; cases ho
    · rw [e1] at ho; cases ho
      rw [e2] at g
      exact d_getItem (by omega) I g ru fun w' s' I' rw' => ⟨v', H, I', rw', k _ M q w v' H (Wd.Le.refl w) R rd⟩
  | dn g ey ep hd =>
    subst ep
    cases ru
    obtain ⟨dd, hz, hs⟩ := g.dict I R
    rcases DnAt.find (R := Rel (bgX X) w) g.keys g.vals g.rel _ with ⟨e1, e2⟩ | ⟨d', v', p', e1, e2, rv', rd⟩
    · rw [e1] at ho; cases ho
    · rw [e1] at ho; cases ho
      exact wpAny_getItem_heap (room8 hu) (vIs I R ey r2 hd) dd e2 ⟨v', H, I.tok _, rv', k _ M q w v' H (Wd.Le.refl w) R rd⟩
/-- the tail of a subscript of a dict -/
theorem tail_dict {prog : Program} {w : World} {A : Around} {E : Value → Shared → Prop} {s : Shared} {value slice : Expr} {o i : Value} {Q : Value → Shared → Prop} (hT : s.TypeIs o "dict") (hs : subscripted slice false o i = operate [o, i] (getItem o i))
    (h : wpAny (model prog w) A (getItem o i) Q E s) : wpAny (model prog w) A (subscriptTail value slice o i) Q E s := by
  unfold subscriptTail
  refine wpAny_bind ?_
  rw [getitemInPython_of_ne hT.not_modules]
  refine wpAny_bind (wpAny_specialOf hT PySem.F.slot_dict_getitem.lookup ?_)
  have fin : wpAny (model prog w) A (subscripted slice false o i) (fun r s₃ => wpAny (model prog w) A (letTemporaryGo value o r >>= fun _ => pure r) Q E s₃) E s := by
    rw [hs]
    exact wpAny_operating (wpAny_mono h (fun r s₃ h₃ => wpAny_bind (wpAny_letTemporaryGo (wpAny_pure h₃))) fun _ _ x => x)
  first
    | exact wpAny_pure (wpAny_bind fin)
    | exact wpAny_bind (wpAny_pure (wpAny_bind fin))
    | exact wpAny_bind fin

/-! ### x[y]: a text, a list, a tuple, a dict -/
def intOf : D → Option Int
  | .int i => some i
  | _ => none
theorem intOf_eq {y : D} {i : Int} (h : intOf y = some i) : y = .int i := by
  cases y <;> cases h
  rfl
def ixD (M : Store) (x y : D) : Option D :=
  match x with
  | .str z => (intOf y).bind fun i => (atI z.cps.toList i).map fun c => .str ⟨#[c]⟩
  | x => match viewS M x with
    | some ds => (intOf y).bind (atI ds)
    | none => (dGet M x y).bind id
def ixR : DR2 := fun x y M Q => (match x with | .str z => z.length ≤ sizeLine | _ => True) ∧ match ixD M x y with | some d => Q d M | none => False
theorem atI_rel {b : Bg} {w : Wd} {ds : List D} {vs : List V} (r : RelL b w ds vs) {i : Int} {d : D} (e : atI ds i = some d) : ∃ v, atI vs i = some v ∧ Rel b w d v := by
  unfold atI at e ⊢
  rw [← r.1]
  obtain ⟨j, ej, e⟩ := Option.bind_eq_some_iff.mp e
  obtain ⟨v, ev, rr⟩ := r.get e
  exact ⟨v, by rw [ej]; exact ev, rr⟩
theorem ix_all (hu : X.A.units + 64 < cLine) : IxR X (rX (bgX X) ixR) := by
  intro value slice pins s σ H x y v u Q I rx ry ⟨w, M, dx, dy, Q', R, r1, r2, q, k⟩ hs
  obtain ⟨hz, q⟩ := q
  split at q
  · rename_i d e
    have caseD : viewS M dx = none → (∀ z, dx ≠ .str z) → wpAny (model X.prog X.w) X.A (subscriptTail value slice v u) (EP X pins σ Q) X.xe s := by
      intro hv hn
      have e' : dGet M dx dy = some (some d) := by
        have e2 : (match viewS M dx with | some ds => (intOf dy).bind (atI ds) | none => (dGet M dx dy).bind id) = some d := by
          cases dx <;> first | exact e | exact absurd rfl (hn _)
        rw [hv] at e2
        obtain ⟨o, e3, e4⟩ := Option.bind_eq_some_iff.mp e2
        rw [e3]
        exact congrArg some e4
      obtain ⟨hT, hg⟩ := dic_item (E := X.xe) hu I rx ry R r1 r2 e' q k
      exact tail_dict hT hs hg
    have caseS : ∀ ds, viewS M dx = some ds → (∀ z, dx ≠ .str z) → wpAny (model X.prog X.w) X.A (subscriptTail value slice v u) (EP X pins σ Q) X.xe s := by
      intro ds hv hn
      have e2 : (match viewS M dx with | some ds => (intOf dy).bind (atI ds) | none => (dGet M dx dy).bind id) = some d := by
        cases dx <;> first | exact e | exact absurd rfl (hn _)
      rw [hv] at e2
      obtain ⟨i, e3, e4⟩ := Option.bind_eq_some_iff.mp e2
      rw [intOf_eq e3] at r2
      cases r2
      obtain ⟨a, vs, rfl, sq, rl⟩ := viewS_at R r1 hv
      obtain ⟨v', ev', rd⟩ := atI_rel rl e4
      rcases sq with sq | sq
      · exact ix_list value slice pins s σ H _ _ v u Q I rx ry ⟨_, _, _, v', rfl, rfl, sq, ev', k _ M q w _ H (Wd.Le.refl w) R rd⟩ hs
      · exact ix_tup value slice pins s σ H _ _ v u Q I rx ry ⟨_, _, _, v', rfl, rfl, sq, ev', k _ M q w _ H (Wd.Le.refl w) R rd⟩ hs
    by_cases hn : ∀ z, dx ≠ .str z
    · cases hv : viewS M dx with
      | none => exact caseD hv hn
      | some ds => exact caseS ds hv hn
    · cases dx with
      | str z =>
        simp only [ixD] at e
        obtain ⟨i, e3, e4⟩ := Option.bind_eq_some_iff.mp e
        rw [intOf_eq e3] at r2
        cases r1
        cases r2
        obtain ⟨c, ec, rfl⟩ := Option.map_eq_some_iff.mp e4
        exact ix_str value slice pins s σ H _ _ v u Q I rx ry ⟨z, i, c, rfl, rfl, hz, ec, k _ M q w _ H (Wd.Le.refl w) R (.str _)⟩ hs
      | _ => exact absurd (fun z => by simp) hn
  · exact q.elim
variable {a b : Expr} {ta tb : DTE} {pos : Pos}
theorem de_ix (hu : X.A.units + 64 < cLine) (ha : DE X a ta) (hb : DE X b tb) (hs : PlainIx b) : DE X (.Subscript a b pos) (dOp ixR ta tb) :=
  peM (pe_ix (ix_all hu) ha hb hs) fun _ _ _ h => up_op rX_d h
end
end DL

set_option Elab.async false
set_option linter.all false
set_option maxRecDepth 100000
set_option maxHeartbeats 2000000
/-! DLMeth: stores, methods, new dicts over data. -/
namespace DL
open PySem L2
open PyProof.Rows hiding St

section
variable {X : Cx} {pins : List (Addr × Obj)} {σ : St} {H : Hp} {s : Shared} {w : Wd} {M : Store}
/-- a pair put into a dict with nested keys -/
theorem dn_put {b : Bg} {w : Wd} {ds : List (NestedKey × D)} {xs : List (NestedKey × Addr × Value)} {f : Nat → V} {k : NestedKey} {p : Addr} {d : D} {v : V} {vv : Value}
    (keys : ds.map (·.1) = xs.map (·.1)) (vals : ∀ (i : Nat) (x : NestedKey × Addr × Value), xs[i]? = some x → RelV (f i) x.2.2) (ks : ∀ (i : Nat) (x : NestedKey × Addr × Value), xs[i]? = some x → Rel b w (kD x.1) (.ref x.2.1))
    (rel : ∀ (i : Nat) (d : NestedKey × D), ds[i]? = some d → Rel b w d.2 (f i)) (rk : Rel b w (kD k) (.ref p)) (rv : RelV v vv) (rd : Rel b w d v) :
    ∃ f' : Nat → V, (aPut ds k d).map (·.1) = (storedH xs k p vv).map (·.1) ∧ (∀ (i : Nat) (x : NestedKey × Addr × Value), (storedH xs k p vv)[i]? = some x → RelV (f' i) x.2.2) ∧ (∀ (i : Nat) (x : NestedKey × Addr × Value), (storedH xs k p vv)[i]? = some x → Rel b w (kD x.1) (.ref x.2.1)) ∧
      ∀ (i : Nat) (d' : NestedKey × D), (aPut ds k d)[i]? = some d' → Rel b w d'.2 (f' i) := by
  have hs : (aGet ds k).isSome = (atKey xs k).isSome := by
    rcases DnAt.find (R := fun _ _ => True) keys vals (fun _ _ _ => trivial) k with ⟨e1, e2⟩ | ⟨_, _, _, e1, e2, _⟩ <;> (rw [e1, e2]; try rfl)
  have hl := len_of_map keys
  cases c : (atKey xs k).isSome with
  | true =>
    have e1 : aPut ds k d = ds.map (fun p => if p.1 = k then (p.1, d) else p) := by unfold aPut; rw [hs, c]; rfl
    have e2 : storedH xs k p vv = xs.map (putAt k vv) := by unfold storedH; rw [c]; rfl
    rw [e1, e2]
    refine ⟨fun i => match xs[i]? with | some x => if x.1 = k then v else f i | none => f i, ?_, fun i x e => ?_, fun i x e => ?_, fun i d' e => ?_⟩
    · rw [List.map_map, List.map_map]
      have h1 : ds.map ((·.1) ∘ fun p => if p.1 = k then (p.1, d) else p) = ds.map (·.1) := List.map_congr_left fun q _ => by by_cases e : q.1 = k <;> simp [e]
      have h2 : xs.map ((·.1) ∘ putAt k vv) = xs.map (·.1) := List.map_congr_left fun q _ => by by_cases e : q.1 = k <;> simp [putAt, e]
      rw [h1, h2, keys]
    · rw [List.getElem?_map] at e
      obtain ⟨x', ex, rfl⟩ := Option.map_eq_some_iff.mp e
      simp only [ex]
      by_cases q : x'.1 = k
      · simp only [putAt, if_pos q]; exact rv
      · simp only [putAt, if_neg q]; exact vals i x' ex
    · rw [List.getElem?_map] at e
      obtain ⟨x', ex, rfl⟩ := Option.map_eq_some_iff.mp e
      by_cases q : x'.1 = k
      · simp only [putAt, if_pos q]; exact ks i x' ex
      · simp only [putAt, if_neg q]; exact ks i x' ex
    · rw [List.getElem?_map] at e
      obtain ⟨d'', ed, rfl⟩ := Option.map_eq_some_iff.mp e
      obtain ⟨x', ex⟩ := at2 hl ed
      have ek : d''.1 = x'.1 := by
        have := congrArg (fun l => l[i]?) keys
        simp [List.getElem?_map, ed, ex] at this
        exact this
      simp only [ex]
      by_cases q : d''.1 = k
      · rw [if_pos q, if_pos (ek ▸ q)]; exact rd
      · rw [if_neg q, if_neg (ek ▸ q)]; exact rel i d'' ed
  | false =>
    have e1 : aPut ds k d = ds ++ [(k, d)] := by unfold aPut; rw [hs, c]; rfl
    have e2 : storedH xs k p vv = xs ++ [(k, p, vv)] := by unfold storedH; rw [c]; rfl
    rw [e1, e2]
    refine ⟨fun i => if i < xs.length then f i else v, by simp [keys], fun i x e => ?_, fun i x e => ?_, fun i d' e => ?_⟩
    · by_cases hi : i < xs.length
      · rw [List.getElem?_append_left hi] at e
        simp only [if_pos hi]; exact vals i x e
      · rw [List.getElem?_append_right (Nat.le_of_not_lt hi)] at e
        have hz : i - xs.length = 0 := by have := (List.getElem?_eq_some_iff.mp e).1; simp at this; omega
        rw [hz] at e; cases e
        simp only [if_neg hi]; exact rv
    · by_cases hi : i < xs.length
      · rw [List.getElem?_append_left hi] at e
        exact ks i x e
      · rw [List.getElem?_append_right (Nat.le_of_not_lt hi)] at e
        have hz : i - xs.length = 0 := by have := (List.getElem?_eq_some_iff.mp e).1; simp at this; omega
        rw [hz] at e; cases e
        exact rk
    · by_cases hi : i < ds.length
      · rw [List.getElem?_append_left hi] at e
        simp only [if_pos (hl ▸ hi)]; exact rel i d' e
      · rw [List.getElem?_append_right (Nat.le_of_not_lt hi)] at e
        have hz : i - ds.length = 0 := by have := (List.getElem?_eq_some_iff.mp e).1; simp at this; omega
        rw [hz] at e; cases e
        simp only [if_neg (hl ▸ hi)]; exact rd
theorem storedH_len {xs : List (NestedKey × Addr × Value)} {k : NestedKey} {p : Addr} {vv : Value} : (storedH xs k p vv).length ≤ xs.length + 1 := by
  unfold storedH
  split <;> simp
theorem storedH_depth {xs : List (NestedKey × Addr × Value)} {k : NestedKey} {p : Addr} {vv : Value} (hx : ∀ x ∈ xs, x.1.depth ≤ 8) (hk : k.depth ≤ 8) : ∀ x ∈ storedH xs k p vv, x.1.depth ≤ 8 := by
  intro x m
  unfold storedH at m
  split at m
  · obtain ⟨y, hy, rfl⟩ := List.mem_map.mp m
    by_cases e : y.1 = k
    · simp only [putAt, if_pos e]; exact hx y hy
    · simp only [putAt, if_neg e]; exact hx y hy
  · rcases List.mem_append.mp m with m | m
    · exact hx x m
    · simp at m; subst m; exact hk
theorem dn_ok {b : Bg} {H' : Hp} {h' : Heap} {a : Addr} {ob : Obj} {xs : List (NestedKey × Addr × Value)} (ho : h'.get? a = some ob) (dd : h'.DictOfH (nestedKind b.P b.wd) a xs) (hz : xs.length ≤ sizeLine) (hs : (a == sysModules) = false) (hd : ∀ x ∈ xs, x.1.depth ≤ 8) : ObjOk b.P b.wd H' h' a (dnO b a ob xs) := by
  obtain ⟨o, es, ep, h1, h2, h3, h4, _, h5⟩ := dd
  rw [ho] at h1
  cases h1
  refine ⟨⟨ho, es, ep, h2, h3, h4, h5, hz, hs, hd⟩, ⟨ob, ho⟩, fun h1 h2 ⟨q1, es, ep, q2⟩ hk => ⟨hk ob q1, es, ep, q2⟩⟩
theorem DnAt.depth {a : Addr} {ds : List (NestedKey × D)} {xs : List (NestedKey × Addr × Value)} {f : Nat → V} (I : Inv X pins σ H s) (d : DnAt (bgX X) w H a ds xs f) : ∀ x ∈ xs, x.1.depth ≤ 8 := by
  obtain ⟨o, ho⟩ := d.at_
  obtain ⟨⟨h1, es, ep, h2, h3, h4, h5, h6, h7, h8⟩, _⟩ := I.hok a _ ho
  exact h8

/-! ### o[i] = v -/
def setR (o i v : D) (M : Store) (Q : Store → Prop) : Prop :=
  match o with
  | .ref n => match M[n]? with
    | some (.lst ds) => (match (intOf i).bind (ixN ds.length) with | some j => Q (M.set n (.lst (ds.set j v))) | none => False)
    | some (.dk kvs) => (match dkey i with | some k => kvs.length < sizeLine ∧ Q (M.set n (.dk (aPut kvs k v))) | none => False)
    | some (.dn kvs) => (match tkey i with | some k => k.depth ≤ 8 ∧ kvs.length < sizeLine ∧ Q (M.set n (.dn (aPut kvs k v))) | none => False)
    | _ => False
  | _ => False
def rSX (b : Bg) (dst : D → D → D → Store → (Store → Prop) → Prop) : TSet := fun o i v H Q => ∃ (w : Wd) (M : Store) (do_ di dv : D) (Q' : Store → Prop), RM b w M H ∧ Rel b w do_ o ∧ Rel b w di i ∧ Rel b w dv v ∧ dst do_ di dv M Q' ∧
  ∀ M', Q' M' → ∀ (w' : Wd) (H' : Hp), w.Le w' → RM b w' M' H' → Q H'
/-- a dict of the store is written: the key found by dkey or tkey -/
theorem set_all (hu : X.A.units + 64 < cLine) : PSet X (rSX (bgX X) setR) := by
  intro pins s σ H o i v ov iv u Q I ro ri rv ⟨w, M, do_, di, dv, Q', R, r1, r2, r3, q, k⟩
  unfold setR at q
  split at q
  · rename_i n
    cases r1 with
    | @ref _ a ea =>
    cases ro
    split at q
    · rename_i ds hM
      split at q
      · rename_i j ej
        obtain ⟨ii, e1, e2⟩ := Option.bind_eq_some_iff.mp ej
        rw [intOf_eq e1] at r2
        cases r2
        obtain ⟨_, uo, eu, c⟩ := R.cell _ _ _ ea hM
        cases c with
        | lst rl =>
          refine set_list pins s σ H (.ref a) _ v (.ref a) iv u Q I (show RelV (.ref a) (.ref a) from rfl) ri rv ⟨a, _, ii, j, rfl, rfl, eu, by rw [← rl.1]; exact e2, ?_⟩
          exact k _ q w _ (Wd.Le.refl w) (R.write ea (.lst (rl.set j r3)))
      · exact q.elim
    · rename_i kvs hM
      split at q
      · rename_i kk ek
        obtain ⟨_, uo, eu, c⟩ := R.cell _ _ _ ea hM
        cases c with
        | dk hk hq =>
          have ev := dkey_v ek r2
          subst ev
          refine d_setItem (H' := _) (by omega) I (DPut.k (k := kk) (v := v) eu (by rw [← len_of_map hk]; exact q.1)) ri rv fun s' I' => ⟨_, I', ?_⟩
          refine k _ q.2 w _ (Wd.Le.refl w) (R.write ea ?_)
          obtain ⟨p1, p2⟩ := aPut_rel (R := Rel (bgX X) w) hk hq kk r3
          rw [putK_eq]
          exact .dk p1 p2
      · exact q.elim
    · rename_i kvs hM
      split at q
      · rename_i kk ek
        obtain ⟨a', xs, f, ea', ea2, d⟩ := DnAt.cell R (.ref ea) hM
        cases ea'
        obtain ⟨ey, p, ep⟩ := tkey_v ek r2
        subst ep
        cases ri
        obtain ⟨dd, hz, hs⟩ := d.dict I R
        have hl := len_of_map d.keys
        refine wpAny_setItem_heap (hsz := hz) (room8 hu) (vIs I R ey r2 q.1) dd fun h' dd' sb => ?_
        obtain ⟨f', p1, p2, p3, p4⟩ := dn_put d.keys d.vals d.ks d.rel (by rw [← ey]; exact r2) rv r3
        obtain ⟨ob0, hat0⟩ := d.at_
        obtain ⟨ob, _, _, hob, _⟩ := id dd'
        refine ⟨_, d_write I (by rw [hat0]; trivial) sb ⟨ob, hob⟩ (dn_ok (b := bgX X) hob dd' (by have := storedH_len (xs := xs) (k := kk) (p := p) (vv := u); have := q.2.1; omega) hs (storedH_depth (d.depth I) q.1)), ?_⟩
        exact k _ q.2.2 w _ (Wd.Le.refl w) (R.write ea (.dn p1 p2 p3 p4))
      · exact q.elim
    · exact q.elim
  · exact q.elim
variable {o i e : Expr} {es : List Expr} {to ti te : DTE} {tr : DTA} {pos tpos apos cpos : Pos}
def dgSub (to ti : DTE) : DTG := fun v ρ M Q => to ρ M fun o M1 => ti ρ M1 fun i M2 => setR o i v M2 fun M3 => Q ρ M3
theorem dg_sub (hu : X.A.units + 64 < cLine) (ho : DE X o to) (hi : DE X i ti)
    (ha : ∀ v, assign (.Subscript o i pos) X.env v = (do
      let ov ← holding [v] (eval o X.env)
      let iv ← holding [v, ov] (eval i X.env)
      standAt pos
      holding [v, ov, iv] (setItem ov iv v)
      release [v, ov, iv] []) := by intro _; rfl) : DG X (.Subscript o i pos) (dgSub to ti) := by
  refine pgM (pg_sub ho hi (set_all hu) ha) fun v σ H Q ⟨w, ρ, M, d, Q', R, r, h, k⟩ => ?_
  refine ⟨w, ρ, M, _, R, h, fun x M1 h1 w1 v1 H1 l1 R1 r1 => ?_⟩
  refine ⟨w1, ρ, M1, _, R1, h1, fun y M2 h2 w2 v2 H2 l2 R2 r2 => ?_⟩
  exact ⟨w2, M2, x, y, d, _, R2.m, r1.mono l2, r2, r.mono (l1.trans l2), h2, fun M3 q w3 H3 l3 R3 => k ρ M3 q w3 σ H3 ((l1.trans l2).trans l3) ⟨R3, R2.e.mono l3⟩⟩

/-! ### methods of built-in types -/
abbrev DRM := D → List D → Store → DK → Prop
def rMX (b : Bg) (dr : DRM) : V → List V → Hp → VK → Prop := fun v vs H Q => ∃ (w : Wd) (M : Store) (x : D) (xs : List D) (Q' : DK), RM b w M H ∧ Rel b w x v ∧ RelL b w xs vs ∧ dr x xs M Q' ∧
  ∀ d M', Q' d M' → ∀ (w' : Wd) (z : V) (H' : Hp), w.Le w' → RM b w' M' H' → Rel b w' d z → Q z H'
abbrev MtX (X : Cx) (id : String) (dr : DRM) : Prop := MtR X id (rMX (bgX X) dr)
theorem MtX.of {id : String} {r : V → List V → Hp → VK → Prop} {dr : DRM} (h : MtR X id r) (hd : ∀ (w : Wd) (M : Store) (H : Hp) (x : D) (xs : List D) (v : V) (vs : List V) (Q' : DK) (Q : VK), RM (bgX X) w M H → Rel (bgX X) w x v → RelL (bgX X) w xs vs → dr x xs M Q' →
    (∀ d M', Q' d M' → ∀ (w' : Wd) (z : V) (H' : Hp), w.Le w' → RM (bgX X) w' M' H' → Rel (bgX X) w' d z → Q z H') → r v vs H Q) : MtX X id dr := fun pins s σ H x xs v us Q I rx rs ⟨w, M, dx, dxs, Q', R, r1, r2, q, k⟩ =>
  h pins s σ H x xs v us Q I rx rs (hd w M H dx dxs x xs Q' Q R r1 r2 q k)
/-- which built-in type a value has, as far as methods are called -/
def tyM (M : Store) : D → Option String
  | .str _ => some "str"
  | .lst _ => some "list"
  | .dk _ => some "dict"
  | .dn _ => some "dict"
  | .ref n => match M[n]? with | some (.lst _) => some "list" | some (.dk _) => some "dict" | some (.dn _) => some "dict" | _ => none
  | _ => none
theorem tyM_is {x : D} {v : V} {vv : Value} {T : String} (I : Inv X pins σ H s) (R : RM (bgX X) w M H) (r : Rel (bgX X) w x v) (rv : RelV v vv) (e : tyM M x = some T) : s.TypeIs vv T ∧ ∀ a, vv = .ref a → ∃ ob, s.heap.get? a = some ob ∧ ob.dict = none := by
  have dnI : ∀ {a : Addr} {ob : Obj} {xs : List (NestedKey × Addr × Value)}, H a = some (dnO (bgX X) a ob xs) → s.TypeIs (.ref a) "dict" ∧ ∀ b, Value.ref a = .ref b → ∃ ob, s.heap.get? b = some ob ∧ ob.dict = none := fun {a o xs} h => by
    obtain ⟨⟨h1, es, ep, h2, _⟩, _⟩ := I.hok a _ h
    exact ⟨⟨o, h1, h2.1⟩, fun b e => by cases e; exact ⟨o, h1, h2.2.1⟩⟩
  cases r with
  | str z => cases e; exact tyV_is I rv rfl
  | lst s1 l q => cases e; exact tyV_is I rv (.inl ⟨rfl, _, sqL_mono R.sub s1⟩)
  | @dk a kvs ds s1 l q =>
    cases e
    cases rv
    have rd := rd_mono R.sub s1
    obtain ⟨z, hd, vs, rel, dd⟩ := dk_rd I.hok rd
    refine ⟨dd.typeIs, fun b e => ?_⟩
    cases e
    obtain ⟨ob, _, _, h1, h2, _⟩ := dd
    exact ⟨ob, h1, h2.2.1⟩
  | dn s1 l q1 q2 q3 => cases e; cases rv; exact dnI (R.sub _ _ s1)
  | ref ea =>
    simp only [tyM] at e
    split at e
    · rename_i hM
      cases e
      obtain ⟨_, uo, eu, c⟩ := R.cell _ _ _ ea hM
      cases c with
      | lst rl => exact tyV_is I rv (.inl ⟨rfl, _, .inl (.inl eu)⟩)
    · rename_i hM
      cases e
      obtain ⟨_, uo, eu, c⟩ := R.cell _ _ _ ea hM
      cases c with
      | dk _ _ => exact tyV_is I rv (.inr (.inr (.inl ⟨rfl, .inl ⟨_, eu⟩⟩)))
    · rename_i hM
      cases e
      obtain ⟨_, uo, eu, c⟩ := R.cell _ _ _ ea hM
      cases c with
      | dn _ _ _ _ => cases rv; exact dnI eu
    · cases e
  | _ => cases e
def dMeth (T : String) (dr : DRM) (to : DTE) (tr : DTA) : DTE := fun ρ M Q => to ρ M fun x M1 => tyM M1 x = some T ∧ tr ρ M1 fun xs M2 => dr x xs M2 Q
variable {name : Str} {T id : String} {dr : DRM}
theorem de_meth (pa : PlainAttrs T) (slot : Slot T name id) (hty : typeOf (.builtin id) = pure (.type "method_descriptor")) (hm : MtX X id dr) (ho : DE X o to) (ha : DA X (e :: es) tr)
    (hbase : attributeBase o name X.env (eval o X.env) = eval o X.env := by rfl)
    (hfew : ((backTo cpos (starEach (e :: es) X.env)).all (fun x => !x.1) && (backToKw cpos (keywordEach [] X.env)).all (fun x => x.1.isSome)
      && decide ((e :: es).length + ([] : List Keyword).length + (if ([] : List Keyword).isEmpty then 0 else 1) < 30)) = true := by rfl)
    (hline : (apos.endLine == cpos.line) = true := by rfl) (hs : starEach (e :: es) X.env = (false, eval e X.env) :: starEach es X.env := by rfl) (hplain : (backTo cpos (starEach es X.env)).any (·.1) = false := by rfl) :
    DE X (.Call (.Attribute o name apos) (e :: es) [] cpos) (dMeth T dr to tr) := by
  refine ⟨fun pins s σ H Q I ⟨w, ρ, M, Q', R, h, k⟩ => ?_⟩
  refine wpAny_Call_method_late hbase hfew hline rfl (thn (ho.run pins s σ H _ I ⟨w, ρ, M, _, R, h, fun x M1 h1 w1 v1 H1 l1 R1 r1 => (show (fun v H => ∃ w1 M1 x, w.Le w1 ∧ RS (bgX X) w1 ρ M1 σ H ∧ Rel (bgX X) w1 x v ∧ tyM M1 x = some T ∧ tr ρ M1 fun xs M2 => dr x xs M2 Q') v1 H1 from ⟨w1, M1, x, l1, R1, r1, h1.1, h1.2⟩)⟩) fun v s1 ⟨x, H1, I1, rx, w1, M1, dx, l1, R1, r1, ty, q1⟩ => ?_)
  obtain ⟨h1, h2⟩ := tyM_is I1 R1.m r1 rx ty
  refine ⟨T, id, pa, slot, hty, h1, h2, ?_⟩
  have hA := ha.run cpos pins s1 σ H1 (fun vs H2 => ∃ w2 M2 xs, w1.Le w2 ∧ RS (bgX X) w2 ρ M2 σ H2 ∧ RelL (bgX X) w2 xs vs ∧ dr dx xs M2 Q') I1 ⟨w1, ρ, M1, _, R1, q1, fun xs M2 h2 w2 vs H2 l2 R2 r2 => ⟨w2, M2, xs, l2, R2, r2, h2⟩⟩
  rw [hs] at hA ⊢
  refine Calls.callWith_builtin (by show (false || (backTo cpos (starEach es X.env)).any (·.1)) = false; rw [hplain] <;> rfl) (Calls.evalArgs_plain ?_)
  refine thn hA fun us s2 ⟨vs, H2, I2, r2, w2, M2, xs, l2, R2, rl, q2⟩ => ?_
  exact hm pins s2 σ H2 x vs v us Q I2 rx r2 ⟨w2, M2, dx, xs, Q', R2.m, r1.mono l2, rl, q2, fun d M' q w' z H' l R' rz => k d M' q w' z H' ((l1.trans l2).trans l) ⟨R', R2.e.mono l⟩ rz⟩
theorem de_meth0 (pa : PlainAttrs T) (slot : Slot T name id) (hty : typeOf (.builtin id) = pure (.type "method_descriptor")) (hm : MtX X id dr) (ho : DE X o to)
    (hbase : attributeBase o name X.env (eval o X.env) = eval o X.env := by rfl) (hline : (apos.endLine == cpos.line) = true := by rfl) : DE X (.Call (.Attribute o name apos) [] [] cpos) (dMeth T dr to dNil) := by
  refine ⟨fun pins s σ H Q I ⟨w, ρ, M, Q', R, h, k⟩ => ?_⟩
  refine wpAny_Call_method0_late hbase hline (thn (ho.run pins s σ H _ I ⟨w, ρ, M, _, R, h, fun x M1 h1 w1 v1 H1 l1 R1 r1 => (show (fun v H => ∃ w1 M1 x, w.Le w1 ∧ RS (bgX X) w1 ρ M1 σ H ∧ Rel (bgX X) w1 x v ∧ tyM M1 x = some T ∧ dr x [] M1 Q') v1 H1 from ⟨w1, M1, x, l1, R1, r1, h1.1, h1.2⟩)⟩) fun v s1 ⟨x, H1, I1, rx, w1, M1, dx, l1, R1, r1, ty, q1⟩ => ?_)
  obtain ⟨h1, h2⟩ := tyM_is I1 R1.m r1 rx ty
  exact ⟨T, id, pa, slot, hty, h1, h2, Calls.callWith_builtin rfl (PySem.evalArgs_none (hm pins s1 σ H1 x [] v [] Q I1 rx .nil ⟨w1, M1, dx, [], Q', R1.m, r1, .nil, q1, fun d M' q w' z H' l R' rz => k d M' q w' z H' (l1.trans l) ⟨R', R1.e.mono l⟩ rz⟩))⟩

/-! the methods -/
def appendR : DRM := fun x xs M Q => match x, xs with
  | .ref n, [y] => (match M[n]? with | some (.lst ds) => ds.length < sizeLine ∧ Q .non (M.set n (.lst (ds ++ [y]))) | _ => False)
  | _, _ => False
theorem mx_append : MtX X "list.append" appendR := .of mt_append fun w M H x xs v vs Q' Q R r1 r2 q k => by
  unfold appendR at q
  split at q
  · rename_i n y
    obtain ⟨u, rfl, ry⟩ := r2.one
    cases r1 with
    | ref ea =>
    split at q
    · rename_i ds hM
      obtain ⟨_, uo, eu, c⟩ := R.cell _ _ _ ea hM
      cases c with
      | lst rl =>
        exact ⟨_, _, u, rfl, rfl, eu, by rw [← rl.1]; exact q.1, k _ _ q.2 w _ _ (Wd.Le.refl w) (R.write ea (.lst (rl.append (.cons ry .nil)))) .non⟩
    · exact q.elim
  · exact q.elim
def popAtR : DRM := fun x xs M Q => match x, xs with
  | .ref n, [.int i] => (match M[n]? with | some (.lst ds) => 0 ≤ i ∧ i < ds.length ∧ ds.length ≤ sizeLine ∧ (match ds[i.toNat]? with | some y => Q y (M.set n (.lst (ds.eraseIdx i.toNat))) | none => False) | _ => False)
  | _, _ => False
theorem RelL.erase {b : Bg} {w : Wd} {ds : List D} {vs : List V} (n : Nat) (r : RelL b w ds vs) : RelL b w (ds.eraseIdx n) (vs.eraseIdx n) := by
  refine ⟨by simp [List.length_eraseIdx, r.1], fun i d v e1 e2 => ?_⟩
  rw [List.getElem?_eraseIdx] at e1 e2
  split at e1
  · rename_i h
    rw [if_pos h] at e2
    exact r.2 i d v e1 e2
  · rename_i h
    rw [if_neg h] at e2
    exact r.2 _ d v e1 e2
theorem mx_popAt : MtX X "list.pop" popAtR := .of mt_popAt fun w M H x xs v vs Q' Q R r1 r2 q k => by
  unfold popAtR at q
  split at q
  · rename_i n i
    obtain ⟨u, rfl, ry⟩ := r2.one
    cases ry
    cases r1 with
    | ref ea =>
    split at q
    · rename_i ds hM
      obtain ⟨_, uo, eu, c⟩ := R.cell _ _ _ ea hM
      cases c with
      | lst rl =>
        obtain ⟨h0, h1, h2, q⟩ := q
        split at q
        · rename_i y ey
          obtain ⟨v', ev, ry⟩ := rl.get ey
          have hs := sizeLine_eq
          refine ⟨_, _, i, i.toNat, v', rfl, rfl, eu, by omega, by omega, by rw [← rl.1]; exact seqIndex_of h0 h1, ev, k _ _ q w _ _ (Wd.Le.refl w) (R.write ea (.lst (rl.erase _))) ry⟩
        · exact q.elim
    · exact q.elim
  · exact q.elim
def getOr : DRM := fun x xs M Q => match xs with
  | [y] => (match dGet M x y with | some o => Q (o.getD .non) M | none => False)
  | [y, z] => (match dGet M x y with | some o => Q (o.getD z) M | none => False)
  | _ => False
theorem mx_get (hu : X.A.units + 64 < cLine) : MtX X "dict.get" getOr := by
  intro pins s σ H x xs v us Q I rx rs ⟨w, M, dx, dxs, Q', R, r1, r2, q, k⟩
  unfold getOr at q
  split at q
  · rename_i y
    obtain ⟨yv, rfl, ry⟩ := r2.one
    obtain ⟨u, rfl, ru⟩ := rs.one
    split at q
    · rename_i o e
      obtain ⟨a, rfl, g⟩ := dic_at R r1 ry e
      cases rx
      cases g with
      | dk g hg =>
        refine d_get1 (by omega) I g ru fun w' s' I' rw' => ⟨_, H, I', rw', ?_⟩
        rcases hg with ⟨e1, e2⟩ | ⟨d, v', e1, e2, rd⟩
        · rw [e1] at q; rw [e2]; exact k _ M q w _ H (Wd.Le.refl w) R .non
        · rw [e1] at q; rw [e2]; exact k _ M q w _ H (Wd.Le.refl w) R rd
      | @dn ds xs' f kk p g ey ep hd =>
        subst ep
        cases ru
        obtain ⟨dd, hz, hs⟩ := g.dict I R
        refine call_meetsIn PySem.F.slot_dict_get dd.typeIs PySem.F.entry_dict_get (PySem.F.args_dict_get_2 _ _) (meetsH_dict_get (nestedKind X.prog X.w) a p hs) ⟨room8 hu, kk, xs', vIs I R ey ry hd, dd, ?_⟩
        rcases DnAt.find (R := Rel (bgX X) w) g.keys g.vals g.rel kk with ⟨e1, e2⟩ | ⟨d', v', p', e1, e2, rv', rd⟩
        · rw [e1] at q; rw [e2]; exact ⟨.non, H, I.tok _, rfl, k _ M q w _ H (Wd.Le.refl w) R .non⟩
        · rw [e1] at q; rw [e2]; exact ⟨v', H, I.tok _, rv', k _ M q w _ H (Wd.Le.refl w) R rd⟩
    · exact q.elim
  · rename_i y z
    obtain ⟨yv, zv, rfl, ry, rz⟩ := r2.two
    obtain ⟨u, u2, rfl, ru, ru2⟩ := rs.two
    split at q
    · rename_i o e
      obtain ⟨a, rfl, g⟩ := dic_at R r1 ry e
      cases rx
      cases g with
      | dk g hg =>
        refine d_get2 (by omega) I g ru ru2 fun w' s' I' rw' => ⟨_, H, I', rw', ?_⟩
        rcases hg with ⟨e1, e2⟩ | ⟨d, v', e1, e2, rd⟩
        · rw [e1] at q; rw [e2]; exact k _ M q w _ H (Wd.Le.refl w) R rz
        · rw [e1] at q; rw [e2]; exact k _ M q w _ H (Wd.Le.refl w) R rd
      | @dn ds xs' f kk p g ey ep hd =>
        subst ep
        cases ru
        obtain ⟨dd, hz, hs⟩ := g.dict I R
        refine call_meetsIn PySem.F.slot_dict_get dd.typeIs PySem.F.entry_dict_get (PySem.F.args_dict_get_3 _ _ _) (meetsH_dict_get_default (nestedKind X.prog X.w) a p hs u2) ⟨room8 hu, kk, xs', vIs I R ey ry hd, dd, ?_⟩
        rcases DnAt.find (R := Rel (bgX X) w) g.keys g.vals g.rel kk with ⟨e1, e2⟩ | ⟨d', v', p', e1, e2, rv', rd⟩
        · rw [e1] at q; rw [e2]; exact ⟨zv, H, I.tok _, ru2, k _ M q w _ H (Wd.Le.refl w) R rz⟩
        · rw [e1] at q; rw [e2]; exact ⟨v', H, I.tok _, rv', k _ M q w _ H (Wd.Le.refl w) R rd⟩
    · exact q.elim
  · exact q.elim
/-- the texts among data -/
def strsOf : List D → Option (List Str)
  | [] => some []
  | .str x :: r => (strsOf r).map (x :: ·)
  | _ :: _ => none
theorem strsOf_map (xs : List Str) : strsOf (xs.map D.str) = some xs := by
  induction xs with
  | nil => rfl
  | cons x r ih => simp [strsOf, ih]
theorem strsOf_eq : ∀ {ds : List D} {xs : List Str}, strsOf ds = some xs → ds = xs.map D.str
  | [], _, h => by cases h; rfl
  | .str x :: r, xs, h => by
    simp only [strsOf, Option.map_eq_some_iff] at h
    obtain ⟨ys, e, rfl⟩ := h
    simp [strsOf_eq e]
  | .non :: _, _, h => by cases h
  | .bl _ :: _, _, h => by cases h
  | .int _ :: _, _, h => by cases h
  | .tup _ :: _, _, h => by cases h
  | .lst _ :: _, _, h => by cases h
  | .dk _ :: _, _, h => by cases h
  | .dn _ :: _, _, h => by cases h
  | .ref _ :: _, _, h => by cases h
  | .ty _ :: _, _, h => by cases h
theorem rel_strs {b : Bg} {w : Wd} : ∀ {xs : List Str} {vs : List V}, RelL b w (xs.map D.str) vs → vs = xs.map V.str
  | [], vs, r => List.length_eq_zero_iff.mp r.1.symm
  | x :: xs, [], r => by cases r.1
  | x :: xs, v :: vs, r => by
    have h : Rel b w (.str x) v := r.2 0 _ v rfl rfl
    cases h
    rw [rel_strs (xs := xs) (vs := vs) ⟨Nat.succ.inj r.1, fun i a b e1 e2 => r.2 (i + 1) a b e1 e2⟩]
    rfl
theorem strs_rel {b : Bg} {w : Wd} (xs : List Str) : RelL b w (xs.map D.str) (xs.map V.str) := by
  induction xs with
  | nil => exact .nil
  | cons x r ih => exact .cons (.str x) ih
def joinR : DRM := fun x xs M Q => match x, xs with
  | .str a, [y] => (match (viewS M y).bind strsOf with | some ys => (ys.map (·.length)).sum + ys.length * a.length ≤ 16777216 ∧ Q (.str (Txt.join a ys)) M | none => False)
  | _, _ => False
theorem mx_join : MtX X "str.join" joinR := .of mt_join fun w M H x xs v vs Q' Q R r1 r2 q k => by
  unfold joinR at q
  split at q
  · rename_i a y
    obtain ⟨u, rfl, ry⟩ := r2.one
    cases r1
    split at q
    · rename_i ys e
      obtain ⟨ds, e1, e2⟩ := Option.bind_eq_some_iff.mp e
      obtain ⟨p, us, rfl, sq, rl⟩ := viewS_at R ry e1
      rw [strsOf_eq e2] at rl
      have := rel_strs rl
      subst this
      exact ⟨a, p, ys, rfl, rfl, sq, q.1, k _ M q.2 w _ H (Wd.Le.refl w) R (.str _)⟩
    · exact q.elim
  · exact q.elim
/-! ### {} -/
def dNewK : DTE := fun _ M Q => Q (.ref M.length) (M ++ [.dk []])
theorem de_newK : DE X (.Dict [] [] pos) dNewK := peM pe_dnewK fun σ H Q ⟨w, ρ, M, Q', R, h, k⟩ p hp =>
  k _ _ h (w.put p) _ _ Wd.put_le (R.put hp (.dk (kvs := []) rfl fun i d v e => by simp at e)) (putR R.m)
def dNewN : DTE := fun _ M Q => Q (.ref M.length) (M ++ [.dn []])
theorem de_newN : DE X (.Dict [] [] pos) dNewN := by
  refine ⟨fun pins s σ H Q I ⟨w, ρ, M, Q', R, h, k⟩ => ?_⟩
  have hf : H s.heap.objs.size = none := I.hok.fresh (Nat.le_refl _)
  refine wpAny_Dict_empty ?_
  refine ⟨.ref s.heap.objs.size, upd H s.heap.objs.size (dnO (bgX X) s.heap.objs.size { cls := .type "dict", data := .dict #[] } []), I.laid (t' := s.toks) (fun b u e => Heap.get?_push_of_some _ e) (Nat.le_refl _) ?_, rfl, ?_⟩
  · refine dn_ok (b := bgX X) (Heap.get?_push_size _ rfl) (Heap.DictOfH.new s.heap) (Nat.zero_le _) ?_ (fun x h => by simp at h)
    exact beq_eq_false_iff_ne.mpr (Nat.ne_of_gt I.big)
  · exact k _ _ h (w.put s.heap.objs.size) _ _ Wd.put_le (R.put hf (.dn (f := fun _ => .non) rfl (fun i x e => by simp at e) (fun i x e => by simp at e) fun i d e => by simp at e)) (putR R.m)
end
end DL

set_option Elab.async false
set_option linter.all false
set_option maxRecDepth 100000
set_option maxHeartbeats 2000000
/-! DLLoops: what a for walks, for loops, comprehensions over data. -/
namespace DL
open PySem L2
open PyProof.Rows hiding St

/-! ### sources -/
abbrev DTI := Env' → Store → (List D → (Store → Prop) → Store → Prop) → Prop
/-- an iterator hands out the items, as long as the store keeps what is walked -/
def JOk (b : Bg) (w : Wd) (J : It) (items : List D) (keep : Store → Prop) : Prop :=
  ∀ (w' : Wd) (M' : Store) (H' : Hp), w.Le0 w' → RM b w' M' H' → keep M' →
    (∀ (i : Nat) (d : D), items[i]? = some d → J.go i H' ∧ ∀ x H'', J.yld i H' x H'' → ∃ w'', w'.Le w'' ∧ RM b w'' M' H'' ∧ Rel b w'' d x) ∧ J.stop items.length H'
theorem JOk.mono {b : Bg} {w w1 : Wd} {J : It} {items : List D} {keep : Store → Prop} (h : JOk b w J items keep) (l : w.Le0 w1) : JOk b w1 J items keep := fun w' M' H' l' => h w' M' H' (l.trans l')
def upI (b : Bg) (t : DTI) : TI := fun σ H R => ∃ (w : Wd) (ρ : Env') (M : Store) (R' : List D → (Store → Prop) → Store → Prop), RS b w ρ M σ H ∧ t ρ M R' ∧
  ∀ items keep M', R' items keep M' → ∀ (w' : Wd) (J : It) (H' : Hp), w.Le w' → RS b w' ρ M' σ H' → JOk b w' J items keep → R J H'
abbrev DI (X : Cx) (tg iter : Expr) (t : DTI) : Prop := PI X tg iter (upI (bgX X) t)
section
variable {X : Cx} {tg e e2 : Expr} {te : DTE} {ta : DTA} {pos p tpos : Pos}
theorem piM {iter : Expr} {t t' : TI} (h : PI X tg iter t) (m : ∀ σ H R, t' σ H R → t σ H R) : PI X tg iter t' := ⟨fun pins s σ H R I q => h.run pins s σ H R I (m σ H R q)⟩
/-- for x in a list, a tuple, a text -/
def dIter (te : DTE) : DTI := fun ρ M R => te ρ M fun x M1 => match x with
  | .str z => R ((signs z).map D.str) (fun _ => True) M1
  | .tup ds => R ds (fun _ => True) M1
  | x => match viewL M1 x with | some ds => R ds (fun M => viewL M x = some ds) M1 | none => False
theorem jok_list {b : Bg} {w : Wd} {M : Store} {H : Hp} {x : D} {a : Addr} {ds : List D} (r : Rel b w x (.ref a)) : JOk b w (Itl b.K a) ds (fun M => viewL M x = some ds) := by
  intro w' M' H' l R kp
  obtain ⟨a', vs, ea, sq, rl⟩ := viewL_at R (r.mono0 l) kp
  cases ea
  refine ⟨fun i d e => ?_, ⟨vs, sq, Nat.le_of_eq rl.1.symm⟩⟩
  obtain ⟨v, ev, rv⟩ := rl.get e
  refine ⟨⟨vs, v, sq, ev⟩, fun x H'' ⟨eH, hx⟩ => ?_⟩
  subst eH
  have := hx vs sq
  rw [ev] at this
  cases this
  exact ⟨w', Wd.Le.refl w', R, rv⟩
theorem jok_tup {b : Bg} {w : Wd} {a : Addr} {ds : List D} (r : Rel b w (.tup ds) (.ref a)) : JOk b w (Itt b.K a) ds (fun _ => True) := by
  intro w' M' H' l R _
  cases r.mono0 l with
  | tup s ll q =>
    have sq := sqT_mono R.sub s
    have rl : RelL b w' ds _ := ⟨ll, q⟩
    refine ⟨fun i d e => ?_, ⟨_, sq, Nat.le_of_eq ll.symm⟩⟩
    obtain ⟨v, ev, rv⟩ := rl.get e
    refine ⟨⟨_, v, sq, ev⟩, fun x H'' ⟨eH, hx⟩ => ?_⟩
    subst eH
    have := hx _ sq
    rw [ev] at this
    cases this
    exact ⟨w', Wd.Le.refl w', R, rv⟩
theorem jok_str {b : Bg} {w : Wd} {z : Str} : JOk b w (Its z) ((signs z).map D.str) (fun _ => True) := by
  intro w' M' H' l R _
  refine ⟨fun i d e => ?_, ?_⟩
  · rw [signs, List.map_map, List.getElem?_map] at e
    obtain ⟨c, ec, rfl⟩ := Option.map_eq_some_iff.mp e
    have ec' : z.cps[i]? = some c := by simpa using ec
    refine ⟨(Array.getElem?_eq_some_iff.mp ec').1, fun x H'' ⟨eH, c', hc, hx⟩ => ?_⟩
    subst eH; subst hx
    rw [ec'] at hc; cases hc
    exact ⟨w', Wd.Le.refl w', R, .str _⟩
  · show z.cps.size ≤ _
    simp [signs]
theorem di_any (he : DE X e te) : DI X tg e (dIter te) := by
  refine ⟨fun pins s σ H R I ⟨w, ρ, M, R', Rs, h, k⟩ => ?_⟩
  refine thn (he.run pins s σ H (fun v H1 => ∃ w1 M1 x, w.Le w1 ∧ RS (bgX X) w1 ρ M1 σ H1 ∧ Rel (bgX X) w1 x v ∧ (match x with
    | .str z => R' ((signs z).map D.str) (fun _ => True) M1
    | .tup ds => R' ds (fun _ => True) M1
    | x => match viewL M1 x with | some ds => R' ds (fun M => viewL M x = some ds) M1 | none => False)) I ⟨w, ρ, M, _, Rs, h, fun x M1 h1 w1 v1 H1 l1 R1 r1 => ⟨w1, M1, x, l1, R1, r1, h1⟩⟩) fun v s1 ⟨xv, H1, I1, rx, w1, M1, x, l1, R1, r1, q⟩ => ?_
  have ofL : ∀ ds, viewL M1 x = some ds → R' ds (fun M => viewL M x = some ds) M1 → wpAny (model X.prog X.w) X.A (pyIter v) (PIE X pins σ tg R) X.xe s1 := by
    intro ds ev q
    obtain ⟨a, vs, ea, sq, rl⟩ := viewL_at R1.m r1 ev
    subst ea
    cases rx
    obtain ⟨its, rv, pl, hz⟩ := I1.list sq
    refine wpAny_pyIter_list pl.isList ?_
    refine ⟨s1.heap.objs.size, [s1.heap.objs.size], _, _, H1, rfl, I1.kept (t' := s1.toks) fun b o e => Heap.get?_push_of_some _ e, turn_list a _, ⟨_, Heap.get?_push_size _ rfl, rfl, rfl⟩, fun b hb => ?_, k ds _ M1 q w1 _ H1 l1 R1 (jok_list (M := M1) (H := H1) r1)⟩
    have e : b = s1.heap.objs.size := by simpa using hb
    subst e
    exact I1.fpOk (Nat.le_refl _) (I1.hok.fresh (Nat.le_refl _))
  have elseL : (match viewL M1 x with | some ds => R' ds (fun M => viewL M x = some ds) M1 | none => False) → wpAny (model X.prog X.w) X.A (pyIter v) (PIE X pins σ tg R) X.xe s1 := by
    intro q
    split at q
    · rename_i ds ev
      exact ofL ds ev q
    · exact q.elim
  cases x with
  | str z =>
    cases r1
    obtain ⟨t, rfl⟩ := rx
    refine wpAny_pyIter_strU ?_
    refine ⟨s1.heap.objs.size, [s1.heap.objs.size], _, _, H1, rfl, I1.kept (t' := s1.toks) fun b o e => Heap.get?_push_of_some _ e, turn_str _ z t (strIterType z) (by unfold strIterType; split <;> simp), ⟨_, Heap.get?_push_size _ rfl, rfl, rfl⟩, fun b hb => ?_, k _ _ M1 q w1 _ H1 l1 R1 jok_str⟩
    have e : b = s1.heap.objs.size := by simpa using hb
    subst e
    exact I1.fpOk (Nat.le_refl _) (I1.hok.fresh (Nat.le_refl _))
  | tup ds =>
    have r1' := r1
    cases r1 with
    | tup sq l rr =>
      cases rx
      obtain ⟨its, rv, pl, hz⟩ := I1.tuple (sqT_mono R1.m.sub sq)
      refine wpAny_pyIter_tuple (show s1.heap.IsTuple _ its.toArray from pl) ?_
      refine ⟨s1.heap.objs.size, [s1.heap.objs.size], _, _, H1, rfl, I1.kept (t' := s1.toks) fun b o e => Heap.get?_push_of_some _ e, turn_tuple _ _, ⟨_, Heap.get?_push_size _ rfl, rfl, rfl⟩, fun b hb => ?_, k ds _ M1 q w1 _ H1 l1 R1 (jok_tup r1')⟩
      have e : b = s1.heap.objs.size := by simpa using hb
      subst e
      exact I1.fpOk (Nat.le_refl _) (I1.hok.fresh (Nat.le_refl _))
  | _ => exact elseL q
/-- range -/
def rangeD (lo : Int) (n : Nat) : List D := (List.range n).map fun i => .int (lo + (i : Nat))
theorem jok_range {b : Bg} {w : Wd} {lo : Int} {n : Nat} : JOk b w (Itr lo n) (rangeD lo n) (fun _ => True) := by
  intro w' M' H' l R _
  refine ⟨fun i d e => ?_, ?_⟩
  · rw [rangeD, List.getElem?_map] at e
    obtain ⟨c, ec, rfl⟩ := Option.map_eq_some_iff.mp e
    obtain ⟨hi, ec⟩ := List.getElem?_eq_some_iff.mp ec
    simp at ec hi
    subst ec
    refine ⟨hi, fun x H'' ⟨eH, hx⟩ => ?_⟩
    subst eH; subst hx
    exact ⟨w', Wd.Le.refl w', R, .int _⟩
  · show n ≤ _
    simp [rangeD]
def dRange1 (ta : DTA) : DTI := fun ρ M R => ta ρ M fun xs M1 => match xs with | [.int j] => j < 2 ^ 62 ∧ -(2 ^ 62) ≤ j ∧ R (rangeD 0 j.toNat) (fun _ => True) M1 | _ => False
def dRange2 (ta : DTA) : DTI := fun ρ M R => ta ρ M fun xs M1 => match xs with | [.int i, .int j] => (-(2 ^ 62) ≤ i ∧ i < 2 ^ 62 ∧ -(2 ^ 62) ≤ j ∧ j < 2 ^ 62) ∧ R (rangeD i (j - i).toNat) (fun _ => True) M1 | _ => False
theorem di_range1 (hg : Gl X "range") (hm : X.mg "range" = none) (ha : DA X [e] ta) (hs : starEach [e] X.env = [(false, eval e X.env)] := by rfl) : DI X tg (.Call (.Name "range" p) [e] [] pos) (dRange1 ta) := by
  refine piM (pi_range1 hg hm ha hs) fun σ H R ⟨w, ρ, M, R', Rs, h, k⟩ => ?_
  refine ⟨w, ρ, M, _, Rs, h, fun xs M1 h1 w1 vs H1 l1 R1 r1 => ?_⟩
  split at h1
  · obtain ⟨v, rfl, rv⟩ := r1.one
    cases rv
    exact ⟨_, rfl, h1.2.1, h1.1, k _ _ M1 h1.2.2 w1 _ H1 l1 R1 jok_range⟩
  · exact h1.elim
theorem di_range2 (hg : Gl X "range") (hm : X.mg "range" = none) (ha : DA X [e, e2] ta) (hs : starEach [e, e2] X.env = [(false, eval e X.env), (false, eval e2 X.env)] := by rfl) (hs2 : starEach [e2] X.env = [(false, eval e2 X.env)] := by rfl) :
    DI X tg (.Call (.Name "range" p) [e, e2] [] pos) (dRange2 ta) := by
  refine piM (pi_range2 hg hm ha hs hs2) fun σ H R ⟨w, ρ, M, R', Rs, h, k⟩ => ?_
  refine ⟨w, ρ, M, _, Rs, h, fun xs M1 h1 w1 vs H1 l1 R1 r1 => ?_⟩
  split at h1
  · obtain ⟨v, u, rfl, rv, ru⟩ := r1.two
    cases rv; cases ru
    exact ⟨_, _, rfl, h1.1, k _ _ M1 h1.2 w1 _ H1 l1 R1 jok_range⟩
  · exact h1.elim
/-- zip of two lists -/
def zipD (xs ys : List D) : List D := List.zipWith (fun x y => .tup [x, y]) xs ys
theorem pairT {b : Bg} {w : Wd} {M : Store} {H : Hp} {x y : D} {v u : V} {T : Addr} (R : RM b w M H) (hT : H T = none) (r1 : Rel b w x v) (r2 : Rel b w y u) :
    ∃ w'', w.Le w'' ∧ RM b w'' M (upd H T (.tup [v, u])) ∧ Rel b w'' (.tup [x, y]) (.ref T) :=
  ⟨w.froz T (.tup [v, u]), Wd.froz_le (R.nF hT), R.froz hT, frozT R (.cons r1 (.cons r2 .nil)) hT⟩
theorem jok_zip {b : Bg} {w : Wd} {x y : D} {a c : Addr} {ds es : List D} (r : Rel b w x (.ref a)) (r2 : Rel b w y (.ref c)) : JOk b w (Itz b.K a c) (zipD ds es) (fun M => viewL M x = some ds ∧ viewL M y = some es) := by
  intro w' M' H' l R ⟨k1, k2⟩
  obtain ⟨a', vs, ea, sq, rl⟩ := viewL_at R (r.mono0 l) k1
  cases ea
  obtain ⟨c', us, ec, sq2, rl2⟩ := viewL_at R (r2.mono0 l) k2
  cases ec
  refine ⟨fun i d e => ?_, ⟨vs, us, sq, sq2, ?_⟩⟩
  · rw [zipD, List.getElem?_zipWith] at e
    split at e
    · rename_i x1 y1 e1 e2
      cases e
      obtain ⟨v, ev, rv⟩ := rl.get e1
      obtain ⟨u, eu, ru⟩ := rl2.get e2
      refine ⟨⟨vs, us, v, u, sq, sq2, ev, eu⟩, fun z H'' ⟨T, x', y', ez, hT, eH, hx, hy⟩ => ?_⟩
      subst ez; subst eH
      have h1 := hx vs sq
      have h2 := hy us sq2
      rw [ev] at h1; rw [eu] at h2
      cases h1; cases h2
      exact pairT R hT rv ru
    · cases e
  · rw [zipD, List.length_zipWith, ← rl.1, ← rl2.1]
    omega
def dZip (ta : DTA) : DTI := fun ρ M R => ta ρ M fun xs M1 => match xs with
  | [x, y] => (match viewL M1 x, viewL M1 y with | some ds, some es => R (zipD ds es) (fun M => viewL M x = some ds ∧ viewL M y = some es) M1 | _, _ => False)
  | _ => False
theorem di_zip {elts : List Expr} {kk : Nat} (hg : Gl X "zip") (hm : X.mg "zip" = none) (ha : DA X [e, e2] ta)
    (hs : starEach [e, e2] X.env = (false, eval e X.env) :: starEach [e2] X.env := by rfl) (hpl : (backTo pos (starEach [e2] X.env)).any (·.1) = false := by rfl) :
    DI X (.Tuple elts kk tpos) (.Call (.Name "zip" p) [e, e2] [] pos) (dZip ta) := by
  refine piM (pi_zip hg hm ha hs hpl) fun σ H R ⟨w, ρ, M, R', Rs, h, k⟩ => ?_
  refine ⟨w, ρ, M, _, Rs, h, fun xs M1 h1 w1 vs H1 l1 R1 r1 => ?_⟩
  split at h1
  · obtain ⟨v, u, rfl, rv, ru⟩ := r1.two
    split at h1
    · rename_i ds es e1 e2
      obtain ⟨a, vs', rfl, sq, rl⟩ := viewL_at R1.m rv e1
      obtain ⟨c, us', rfl, sq2, rl2⟩ := viewL_at R1.m ru e2
      exact ⟨a, c, vs', us', rfl, sq, sq2, k _ _ M1 h1 w1 _ H1 l1 R1 (jok_zip rv ru)⟩
    · exact h1.elim
  · exact h1.elim
/-- enumerate of a list -/
def enumD (xs : List D) : List D := xs.mapIdx fun i x => .tup [.int (i : Nat), x]
theorem jok_enum {b : Bg} {w : Wd} {x : D} {a : Addr} {ds : List D} (r : Rel b w x (.ref a)) : JOk b w (Ite b.K a) (enumD ds) (fun M => viewL M x = some ds) := by
  intro w' M' H' l R k1
  obtain ⟨a', vs, ea, sq, rl⟩ := viewL_at R (r.mono0 l) k1
  cases ea
  refine ⟨fun i d e => ?_, ⟨vs, sq, ?_⟩⟩
  · rw [enumD, List.getElem?_mapIdx] at e
    obtain ⟨x1, e1, rfl⟩ := Option.map_eq_some_iff.mp e
    obtain ⟨v, ev, rv⟩ := rl.get e1
    refine ⟨⟨vs, v, sq, ev⟩, fun z H'' ⟨T, x', ez, hT, eH, hx⟩ => ?_⟩
    subst ez; subst eH
    have h1 := hx vs sq
    rw [ev] at h1
    cases h1
    exact pairT R hT (.int _) rv
  · rw [enumD, List.length_mapIdx, ← rl.1]
    exact Nat.le_refl _
def dEnum (ta : DTA) : DTI := fun ρ M R => ta ρ M fun xs M1 => match xs with
  | [x] => (match viewL M1 x with | some ds => R (enumD ds) (fun M => viewL M x = some ds) M1 | none => False)
  | _ => False
theorem di_enum {elts : List Expr} {kk : Nat} (hg : Gl X "enumerate") (hm : X.mg "enumerate" = none) (ha : DA X [e] ta) (hs : starEach [e] X.env = [(false, eval e X.env)] := by rfl) :
    DI X (.Tuple elts kk tpos) (.Call (.Name "enumerate" p) [e] [] pos) (dEnum ta) := by
  refine piM (pi_enum hg hm ha hs) fun σ H R ⟨w, ρ, M, R', Rs, h, k⟩ => ?_
  refine ⟨w, ρ, M, _, Rs, h, fun xs M1 h1 w1 vs H1 l1 R1 r1 => ?_⟩
  split at h1
  · obtain ⟨v, rfl, rv⟩ := r1.one
    split at h1
    · rename_i ds e1
      obtain ⟨a, vs', rfl, sq, rl⟩ := viewL_at R1.m rv e1
      exact ⟨a, vs', rfl, sq, k _ _ M1 h1 w1 _ H1 l1 R1 (jok_enum rv)⟩
    · exact h1.elim
  · exact h1.elim
end

/-! ### for -/
def forGo (tg : DTG) (tb : DTS) (keep : Store → Prop) (D : DEnds) : List DL.D → Env' → Store → Prop
  | [], ρ, M => keep M ∧ D.nx ρ M
  | x :: xs, ρ, M => keep M ∧ tg x ρ M fun ρ2 M2 => tb { D with nx := fun ρ' M' => TurnOk M ρ' M' (forGo tg tb keep D xs), ct := fun ρ' M' => TurnOk M ρ' M' (forGo tg tb keep D xs), bk := D.nx } ρ2 M2
def dFor (src : DTI) (tg : DTG) (tb : DTS) : DTS := fun D ρ M => src ρ M fun items keep M1 => forGo tg tb keep D items ρ M1
section
variable {X : Cx} {tg e iter : Expr} {src : DTI} {g : DTG} {tb : DTS} {body : List Stmt} {pos : Pos}
theorem forGo_keep {g : DTG} {tb : DTS} {keep : Store → Prop} {D : DEnds} {xs : List DL.D} {ρ : Env'} {M : Store} (h : forGo g tb keep D xs ρ M) : keep M := by
  cases xs with
  | nil => exact h.1
  | cons x xs => exact h.1
theorem ds_for (hp : PassesOwn (model X.prog X.w) X.A X.env X.xe) (hc : X.calm = true) (hi : DI X tg iter src) (hg : DG X tg g) (hb : DSs X body tb)
    (hs : ∀ x, foldedSetIterable iter X.env x = pure x := by intro _; rfl) : DS X (.For tg iter body [] pos) (dFor src g tb) := by
  refine psM (ps_for hp hc hi hg hb hs) fun D σ H ⟨w, ρ, M, D', R, h, E⟩ => ?_
  refine ⟨w, ρ, M, _, R, h, fun items keep M1 h1 w1 J H1 l1 R1 jk => ?_⟩
  refine ⟨fun i m σ H => m = items.length - i ∧ i ≤ items.length ∧ ∃ (w2 : Wd) (ρ2 : Env') (M2 : Store), w1.Le w2 ∧ RS (bgX X) w2 ρ2 M2 σ H ∧ forGo g tb keep D' (items.drop i) ρ2 M2, ⟨items.length, by simp, Nat.zero_le _, w1, ρ, M1, Wd.Le.refl w1, R1, by simpa using h1⟩, ?_⟩
  rintro i m σ2 H2 ⟨rfl, hi, w2, ρ2, M2, l2, R2, q2⟩
  obtain ⟨turns, stop⟩ := jk w2 M2 H2 l2.le0 R2.m (forGo_keep q2)
  by_cases hlt : i < items.length
  · have ed : items.drop i = items[i] :: items.drop (i + 1) := List.drop_eq_getElem_cons hlt
    rw [ed] at q2
    obtain ⟨kp, q2⟩ := q2
    obtain ⟨go, yl⟩ := turns i items[i] (List.getElem?_eq_getElem hlt)
    refine .inr ⟨go, fun σ' H' => ∃ (w3 : Wd) (ρ3 : Env') (M3 : Store), w1.Le w3 ∧ RS (bgX X) w3 ρ3 M3 σ' H' ∧ forGo g tb keep D' (items.drop (i + 1)) ρ3 M3, fun σ' H' q => ⟨items.length - (i + 1), by omega, rfl, hlt, q⟩, fun x H3 y => ?_⟩
    obtain ⟨w3, l3, R3, r3⟩ := yl x H3 y
    refine ⟨w3, ρ2, M2, items[i], _, ⟨R3, R2.e.mono l3⟩, r3, q2, fun ρ4 M4 q4 w4 σ4 H4 l4 R4 => ?_⟩
    refine ⟨w4, ρ4, M4, _, R4, q4, ?_⟩
    have again : NxR (bgX X) w4 (fun ρ' M' => TurnOk M2 ρ' M' (forGo g tb keep D' (items.drop (i + 1)))) (fun σ' H' => ∃ (w3 : Wd) (ρ3 : Env') (M3 : Store), w1.Le w3 ∧ RS (bgX X) w3 ρ3 M3 σ' H' ∧ forGo g tb keep D' (items.drop (i + 1)) ρ3 M3) := by
      intro ρ5 M5 h5 w5 σ5 H5 l5 R5
      obtain ⟨ρ6, M6, w6, l6, R6, q6⟩ := h5.sound R2.m ((l3.trans l4).trans l5) R5
      exact ⟨w6, ρ6, M6, l2.trans l6, R6, q6⟩
    have lw : w.Le w4 := (((l1.trans l2).trans l3).trans l4)
    exact ⟨again, E.nx.mono lw, again, fun d M' q w' v H' l R' r => E.rt d M' q w' v H' (lw.trans l) R' r⟩
  · have e : i = items.length := by omega
    subst e
    rw [List.drop_length] at q2
    exact .inl ⟨stop, E.nx _ _ q2.2 w2 _ H2 (l1.trans l2) R2⟩
end

/-! ### comprehensions -/
/-- a comprehension's target: a name | names -/
inductive Shape where
  | one (i : Nat) | many (is : List Nat)
def Shape.slots : Shape → List Nat
  | .one i => [i]
  | .many is => is
def gsNames : List Nat → TGs
  | [] => gNil
  | i :: r => gCons (gName i) (gsNames r)
def Shape.g (K : PySem.W.Frag) : Shape → TG
  | .one i => gName i
  | .many is => gTup K is.length (gsNames is)
def dwipe (ρ : Env') : List Nat → Env'
  | [] => ρ
  | v :: vs => (dwipe ρ vs).set v none
def setAll (ρ : Env') : List Nat → List D → Env'
  | i :: is, d :: ds => setAll (ρ.set i (some d)) is ds
  | _, _ => ρ
def Shape.bind (sh : Shape) (d : D) (ρ : Env') : Option Env' :=
  match sh with
  | .one i => some (ρ.set i (some d))
  | .many is => match d with | .tup ds => if ds.length = is.length then some (setAll ρ is ds) else none | _ => none
theorem dwipe_len (ρ : Env') : ∀ vs : List Nat, (dwipe ρ vs).length = ρ.length
  | [] => rfl
  | v :: vs => by unfold dwipe; rw [List.length_set, dwipe_len ρ vs]
theorem dwipe_some {ρ : Env'} {i : Nat} {x : D} : ∀ {vs : List Nat}, (dwipe ρ vs)[i]? = some (some x) → ρ[i]? = some (some x) ∧ i ∉ vs
  | [], h => ⟨h, by simp⟩
  | v :: vs, h => by
    unfold dwipe at h
    rw [List.getElem?_set] at h
    split at h
    · split at h <;> cases h
    · rename_i hne
      obtain ⟨h1, h2⟩ := dwipe_some h
      exact ⟨h1, by simp [h2]; exact fun e => hne e.symm⟩
theorem wipe_keep {σ : St} {i : Nat} {x : V} : ∀ {vs : List Nat}, σ[i]? = some (some x) → i ∉ vs → (wipe σ vs)[i]? = some (some x)
  | [], h, _ => h
  | v :: vs, h, hn => by
    unfold wipe
    rw [List.getElem?_set_ne (by intro e; exact hn (by simp [e]))]
    exact wipe_keep h (fun q => hn (by simp [q]))
theorem EnvR.wipe {b : Bg} {w : Wd} {ρ : Env'} {σ : St} (r : EnvR b w ρ σ) (vs : List Nat) : EnvR b w (dwipe ρ vs) (wipe σ vs) := by
  refine ⟨by rw [dwipe_len, wipe_length]; exact r.1, fun i d e => ?_⟩
  obtain ⟨e1, hn⟩ := dwipe_some e
  obtain ⟨v, ev, rv⟩ := r.2 i d e1
  exact ⟨v, wipe_keep ev hn, rv⟩
theorem wipe_get {σ : St} {i : Nat} : ∀ {vs : List Nat}, i ∈ vs → i < σ.length → (wipe σ vs)[i]? = some none
  | [], h, _ => by simp at h
  | v :: vs, h, hl => by
    unfold L2.wipe
    rw [List.getElem?_set]
    by_cases e : v = i
    · rw [if_pos e, if_pos (by rw [wipe_length, e]; exact hl)]
    · rw [if_neg e]
      exact wipe_get (by simpa [Ne.symm e] using h) hl
theorem wipe_set {σ : St} {vs : List Nat} {i : Nat} {x : Option V} (hi : i ∈ vs) : wipe (σ.set i x) vs = wipe σ vs := by
  refine List.ext_getElem? fun j => ?_
  by_cases hj : j ∈ vs
  · by_cases hl : j < σ.length
    · rw [wipe_get hj (by simpa using hl), wipe_get hj hl]
    · rw [List.getElem?_eq_none (by rw [wipe_length]; simp; omega), List.getElem?_eq_none (by rw [wipe_length]; omega)]
  · have ne : ∀ {vs : List Nat} {σ : St}, j ∉ vs → (wipe σ vs)[j]? = σ[j]? := by
      intro vs
      induction vs with
      | nil => intro _ _; rfl
      | cons v vs ih =>
        intro σ h
        unfold L2.wipe
        rw [List.getElem?_set_ne (by intro e; exact h (by simp [e]))]
        exact ih (fun q => h (by simp [q]))
    rw [ne hj, ne hj, List.getElem?_set_ne (by intro e; exact hj (e ▸ hi))]
theorem wipe_wipe {σ : St} {vs : List Nat} : wipe (wipe σ vs) vs = wipe σ vs := by
  have gen : ∀ (us : List Nat), (∀ u ∈ us, u ∈ vs) → wipe (wipe σ us) vs = wipe σ vs := by
    intro us
    induction us with
    | nil => intro _; rfl
    | cons u us ih =>
      intro h
      show wipe ((wipe σ us).set u none) vs = _
      rw [wipe_set (h u (by simp)), ih fun x hx => h x (by simp [hx])]
  exact gen vs fun _ h => h
theorem gsNames_ok {b : Bg} {w : Wd} {vs : List Nat} : ∀ {is : List Nat} {ds : List D} {xs : List V} {ρ : Env'} {σ : St} {H : Hp} {Q : St → Hp → Prop}, (∀ i ∈ is, i ∈ vs) → ds.length = is.length → RelL b w ds xs → EnvR b w ρ σ → (∀ σ', EnvR b w (setAll ρ is ds) σ' → wipe σ' vs = wipe σ vs → Q σ' H) → gsNames is xs σ H Q
  | [], ds, xs, ρ, σ, H, Q, _, hl, r, e, k => by
    have hd : ds = [] := List.length_eq_zero_iff.mp hl
    subst hd
    have hx : xs = [] := r.zero
    subst hx
    exact ⟨rfl, k σ (by unfold setAll; exact e) rfl⟩
  | i :: is, d :: ds, [], ρ, σ, H, Q, _, hl, r, e, k => by cases r.1
  | i :: is, d :: ds, x :: xs, ρ, σ, H, Q, hi, hl, r, e, k => by
    refine ⟨x, xs, rfl, ?_⟩
    refine gsNames_ok (is := is) (ds := ds) (xs := xs) (ρ := ρ.set i (some d)) (σ := σ.set i (some x)) (fun j hj => hi j (by simp [hj])) (Nat.succ.inj hl) ⟨Nat.succ.inj r.1, fun j a c e1 e2 => r.2 (j + 1) a c e1 e2⟩ (e.set (r.2 0 d x rfl rfl)) fun σ' e' hw => ?_
    exact k σ' e' (hw.trans (wipe_set (hi i (by simp))))
theorem shape_ok {b : Bg} {w : Wd} {M : Store} {H : Hp} {sh : Shape} {vs : List Nat} {d : D} {x : V} {ρ ρ2 : Env'} {σ : St} {Q : St → Hp → Prop} (hv : ∀ i ∈ sh.slots, i ∈ vs) (R : RM b w M H) (r : Rel b w d x) (e : EnvR b w ρ σ) (hb : sh.bind d ρ = some ρ2)
    (k : ∀ σ', EnvR b w ρ2 σ' → wipe σ' vs = wipe σ vs → Q σ' H) : sh.g b.K x σ H Q := by
  cases sh with
  | one i =>
    cases hb
    exact k _ (e.set r) (wipe_set (hv i (by simp [Shape.slots])))
  | many is =>
    simp only [Shape.bind] at hb
    split at hb
    · rename_i ds
      split at hb
      · rename_i hl
        cases hb
        cases r with
        | tup s l q =>
          exact ⟨_, _, rfl, sqT_mono R.sub s, l.symm.trans hl, gsNames_ok hv hl ⟨l, q⟩ e k⟩
      · cases hb
    · cases hb
def lcGo (sh : Shape) (vs : List Nat) (keep : Store → Prop) (tt : DTT) (te : DTE) (ρ : Env') : List D → Store → List D → (List D → Store → Prop) → Prop
  | [], M, acc, Q => keep M ∧ Q acc M
  | x :: xs, M, acc, Q => keep M ∧ match sh.bind x (dwipe ρ vs) with
    | some ρ2 => tt ρ2 M fun c M3 => if c = true then te ρ2 M3 fun y M4 => acc.length < sizeLine ∧ lcGo sh vs keep tt te ρ xs M4 (acc ++ [y]) Q else lcGo sh vs keep tt te ρ xs M3 acc Q
    | none => False
theorem lcGo_keep {sh : Shape} {vs : List Nat} {keep : Store → Prop} {tt : DTT} {te : DTE} {ρ : Env'} {xs : List D} {M : Store} {acc : List D} {Q : List D → Store → Prop} (h : lcGo sh vs keep tt te ρ xs M acc Q) : keep M := by
  cases xs with
  | nil => exact h.1
  | cons x xs => exact h.1
/-- the list stays as it is -/
def dLc (src : DTI) (sh : Shape) (tt : DTT) (te : DTE) (vs : List Nat) : DTE := fun ρ M Q => src ρ M fun items keep M1 => lcGo sh vs keep tt te ρ items M1 [] fun acc M2 => Q (.lst acc) M2
/-- the list may change -/
def dLcM (src : DTI) (sh : Shape) (tt : DTT) (te : DTE) (vs : List Nat) : DTE := fun ρ M Q => src ρ M fun items keep M1 => lcGo sh vs keep tt te ρ items M1 [] fun acc M2 => Q (.ref M2.length) (M2 ++ [.lst acc])
/-- one cell more held aside -/
def Wd.hold (w : Wd) (D : Addr) (o : HO) : Wd := ⟨w.F, w.as, (D, o) :: w.fr⟩
theorem RM.hold {b : Bg} {w : Wd} {M : Store} {H : Hp} (R : RM b w M H) {D : Addr} {o : HO} (h : H D = none) : RM b (w.hold D o) M (upd H D o) := by
  have le : w.Le0 (w.hold D o) := ⟨fun _ _ h => h, List.prefix_rfl⟩
  refine ⟨fun a u e => ?_, R.len, R.nd, fun n a m e1 e2 => ?_, fun q hq => ?_⟩
  · have := R.sub a u e
    rw [upd_ne (ne_of_none this h)]
    exact this
  · obtain ⟨f, u, e3, c⟩ := R.cell n a m e1 e2
    exact ⟨f, u, by rw [upd_ne (ne_of_none e3 h)]; exact e3, c.mono0 le⟩
  · rcases List.mem_cons.mp hq with rfl | hq
    · exact ⟨upd_same, R.nF h, R.nas h⟩
    · obtain ⟨e1, e2, e3⟩ := R.fr q hq
      exact ⟨by rw [upd_ne (ne_of_none e1 h)]; exact e1, e2, e3⟩
theorem RM.rehold {b : Bg} {w : Wd} {fr : List (Addr × HO)} {M : Store} {H : Hp} {D : Addr} {o o' : HO} (R : RM b w M H) (e : w.fr = (D, o) :: fr) (hn : ∀ q ∈ fr, q.1 ≠ D) : RM b ⟨w.F, w.as, (D, o') :: fr⟩ M (upd H D o') := by
  obtain ⟨eD, fD, nD⟩ := R.fr (D, o) (by rw [e]; simp)
  have le : w.Le0 ⟨w.F, w.as, (D, o') :: fr⟩ := ⟨fun _ _ h => h, List.prefix_rfl⟩
  refine ⟨fun a u ea => ?_, R.len, R.nd, fun n a m e1 e2 => ?_, fun q hq => ?_⟩
  · have ha : a ≠ D := fun z => by subst z; rw [show w.F a = some u from ea] at fD; cases fD
    rw [upd_ne ha]
    exact R.sub a u ea
  · obtain ⟨f, u, e3, c⟩ := R.cell n a m e1 e2
    have ha : a ≠ D := fun z => by subst z; exact nD (List.mem_of_getElem? e1)
    exact ⟨f, u, by rw [upd_ne ha]; exact e3, c.mono0 le⟩
  · rcases List.mem_cons.mp hq with rfl | hq
    · exact ⟨upd_same, fD, nD⟩
    · obtain ⟨e1, e2, e3⟩ := R.fr q (by rw [e]; simp [hq])
      exact ⟨by rw [upd_ne (hn q hq)]; exact e1, e2, e3⟩
/-- the held cell is frozen | put into the store -/
theorem RM.unhold {b : Bg} {w : Wd} {fr : List (Addr × HO)} {M : Store} {H : Hp} {D : Addr} {o : HO} (R : RM b w M H) (e : w.fr = (D, o) :: fr) (hn : ∀ q ∈ fr, q.1 ≠ D) : RM b ⟨upd w.F D o, w.as, fr⟩ M H := by
  obtain ⟨eD, fD, nD⟩ := R.fr (D, o) (by rw [e]; simp)
  have le : w.Le0 ⟨upd w.F D o, w.as, fr⟩ := ⟨fun a u h => by show upd w.F D o a = some u; rw [upd_ne (ne_of_none h fD)]; exact h, List.prefix_rfl⟩
  refine ⟨fun a u ea => ?_, R.len, R.nd, fun n a m e1 e2 => ?_, fun q hq => ?_⟩
  · have ea : upd w.F D o a = some u := ea
    by_cases ha : a = D
    · subst ha
      rw [upd_same] at ea
      cases ea
      exact eD
    · rw [upd_ne ha] at ea
      exact R.sub a u ea
  · obtain ⟨f, u, e3, c⟩ := R.cell n a m e1 e2
    have ha : a ≠ D := fun z => by subst z; exact nD (List.mem_of_getElem? e1)
    exact ⟨by show upd w.F D o a = none; rw [upd_ne ha]; exact f, u, e3, c.mono0 le⟩
  · obtain ⟨e1, e2, e3⟩ := R.fr q (by rw [e]; simp [hq])
    exact ⟨e1, by show upd w.F D o q.1 = none; rw [upd_ne (hn q hq)]; exact e2, e3⟩
theorem RM.unholdM {b : Bg} {w : Wd} {fr : List (Addr × HO)} {M : Store} {H : Hp} {D : Addr} {o : HO} {m : MO} (R : RM b w M H) (e : w.fr = (D, o) :: fr) (hn : ∀ q ∈ fr, q.1 ≠ D) (c : CellR b ⟨w.F, w.as ++ [D], fr⟩ D m o) : RM b ⟨w.F, w.as ++ [D], fr⟩ (M ++ [m]) H := by
  obtain ⟨eD, fD, nD⟩ := R.fr (D, o) (by rw [e]; simp)
  have le : w.Le0 ⟨w.F, w.as ++ [D], fr⟩ := ⟨fun _ _ h => h, List.prefix_append _ _⟩
  refine ⟨R.sub, by show (w.as ++ [D]).length = _; simp [R.len], ?_, fun n a m' e1 e2 => ?_, fun q hq => ?_⟩
  · show (w.as ++ [D]).Nodup
    rw [List.nodup_append]
    exact ⟨R.nd, by simp, fun a ha b hb e' => by simp at hb; subst hb; subst e'; exact nD ha⟩
  · have e1 : (w.as ++ [D])[n]? = some a := e1
    by_cases hn : n < w.as.length
    · rw [List.getElem?_append_left hn] at e1
      rw [List.getElem?_append_left (by rw [← R.len]; exact hn)] at e2
      obtain ⟨f, u, e3, c'⟩ := R.cell n a m' e1 e2
      exact ⟨f, u, e3, c'.mono0 le⟩
    · rw [List.getElem?_append_right (Nat.le_of_not_lt hn)] at e1
      rw [List.getElem?_append_right (by rw [← R.len]; exact Nat.le_of_not_lt hn), ← R.len] at e2
      have hz : n - w.as.length = 0 := by have := (List.getElem?_eq_some_iff.mp e1).1; simp at this; omega
      rw [hz] at e1 e2
      simp at e1 e2
      subst e1; subst e2
      exact ⟨fD, o, eD, c⟩
  · obtain ⟨e1, e2, e3⟩ := R.fr q (by rw [e]; simp [hq])
    exact ⟨e1, e2, by show q.1 ∉ w.as ++ [D]; simp [e3, hn q hq]⟩
section
variable {X : Cx} {elt tg iter : Expr} {ifs : List Expr} {scope : Scope} {own : List (Str × Nat)} {pos : Pos} {src : DTI} {sh : Shape} {tt : DTT} {te : DTE}
theorem up_lc {fin : List D → Store → DK → Prop} (hv : ∀ i ∈ sh.slots, i ∈ own.map (·.2))
    (hfin : ∀ (w0 w : Wd) (ρ : Env') (M : Store) (σ : St) (H : Hp) (D : Addr) (acc : List DL.D) (accV : List V) (Q' : DK) (Q : VK), w0.Le0 w → w.fr = (D, .lst accV) :: w0.fr → (∀ q ∈ w0.fr, q.1 ≠ D) → RM (bgX X) w M H → EnvR (bgX X) w ρ σ → RelL (bgX X) w acc accV → fin acc M Q' →
      (∀ d M', Q' d M' → ∀ (w' : Wd) (v : V) (H' : Hp), w0.Le w' → RS (bgX X) w' ρ M' σ H' → Rel (bgX X) w' d v → Q v H') → Q (.ref D) H)
    {σ : St} {H : Hp} {Q : VK} (h : upE (bgX X) (fun ρ M Q => src ρ M fun items keep M1 => lcGo sh (own.map (·.2)) keep tt te ρ items M1 [] fun acc M2 => fin acc M2 Q) σ H Q) :
    tLc (upI (bgX X) src) (sh.g X.K) (upT (bgX X) tt) (upE (bgX X) te) (own.map (·.2)) σ H Q := by
  obtain ⟨w, ρ, M, Q', R, h, k⟩ := h
  refine ⟨w, ρ, M, _, R, h, fun items keep M1 h1 w1 J H1 l1 R1 jk D hD => ?_⟩
  have hfr := R1.m.nfr hD
  refine ⟨fun i m H => m = items.length - i ∧ i ≤ items.length ∧ ∃ (w2 : Wd) (M2 : Store) (acc : List DL.D) (accV : List V), w1.Le0 w2 ∧ w2.fr = (D, .lst accV) :: w1.fr ∧ RM (bgX X) w2 M2 H ∧ RelL (bgX X) w2 acc accV ∧ lcGo sh (own.map (·.2)) keep tt te ρ (items.drop i) M2 acc (fun acc M2 => fin acc M2 Q'),
    ⟨items.length, by simp, Nat.zero_le _, w1.hold D (.lst []), M1, [], [], ⟨fun _ _ h => h, List.prefix_rfl⟩, rfl, R1.m.hold hD, .nil, by simpa using h1⟩, ?_⟩
  rintro i m H2 ⟨rfl, hi, w2, M2, acc, accV, l2, ef, R2, ra, q2⟩
  obtain ⟨turns, stop⟩ := jk w2 M2 H2 l2 R2 (lcGo_keep q2)
  by_cases hlt : i < items.length
  · have ed : items.drop i = items[i] :: items.drop (i + 1) := List.drop_eq_getElem_cons hlt
    rw [ed] at q2
    obtain ⟨kp, q2⟩ := q2
    obtain ⟨go, yl⟩ := turns i items[i] (List.getElem?_eq_getElem hlt)
    refine .inr ⟨go, fun H' => ∃ (w3 : Wd) (M3 : Store) (acc : List DL.D) (accV : List V), w1.Le0 w3 ∧ w3.fr = (D, .lst accV) :: w1.fr ∧ RM (bgX X) w3 M3 H' ∧ RelL (bgX X) w3 acc accV ∧ lcGo sh (own.map (·.2)) keep tt te ρ (items.drop (i + 1)) M3 acc (fun acc M2 => fin acc M2 Q'),
      fun H' q => ⟨items.length - (i + 1), by omega, rfl, hlt, q⟩, fun x H3 y => ?_⟩
    obtain ⟨w3, l3, R3, r3⟩ := yl x H3 y
    split at q2
    · rename_i ρ2 hb
      have e3 : EnvR (bgX X) w3 (dwipe ρ (own.map (·.2))) (wipe σ (own.map (·.2))) := (R1.e.mono0 (l2.trans l3.le0)).wipe _
      refine shape_ok (b := bgX X) hv R3 r3 e3 hb fun σ3 e4 hw => ?_
      refine ⟨hw.trans wipe_wipe |>.trans rfl, ?_⟩
      refine ⟨w3, ρ2, M2, _, ⟨R3, e4⟩, q2, fun c M4 h4 w4 H4 l4 R4 => ?_⟩
      cases c with
      | false =>
        rw [if_neg Bool.false_ne_true] at h4 ⊢
        exact ⟨w4, M4, acc, accV, (l2.trans l3.le0).trans l4.le0, (l4.fr.trans l3.fr).trans ef, R4.m, ra.mono (l3.trans l4), h4⟩
      | true =>
        rw [if_pos rfl] at h4 ⊢
        refine ⟨w4, ρ2, M4, _, R4, h4, fun z M5 h5 w5 v5 H5 l5 R5 r5 => ?_⟩
        have ef5 : w5.fr = (D, .lst accV) :: w1.fr := ((l5.fr.trans l4.fr).trans l3.fr).trans ef
        obtain ⟨eD, _, _⟩ := R5.m.fr (D, .lst accV) (by rw [ef5]; simp)
        have ra5 := ra.mono ((l3.trans l4).trans l5)
        refine ⟨accV, eD, by rw [← ra5.1]; exact h5.1, ⟨w5.F, w5.as, (D, .lst (accV ++ [v5])) :: w1.fr⟩, M5, acc ++ [z], accV ++ [v5], ?_, rfl, R5.m.rehold ef5 hfr, ?_, h5.2⟩
        · have := ((l2.trans l3.le0).trans l4.le0).trans l5.le0
          exact ⟨this.F, this.as⟩
        · have le : w5.Le0 ⟨w5.F, w5.as, (D, .lst (accV ++ [v5])) :: w1.fr⟩ := ⟨fun _ _ h => h, List.prefix_rfl⟩
          exact (ra5.append (.cons r5 .nil)).mono0 le
    · exact q2.elim
  · have e : i = items.length := by omega
    subst e
    rw [List.drop_length] at q2
    refine .inl ⟨stop, ?_⟩
    exact hfin w1 w2 ρ M2 σ H2 D acc accV Q' Q l2 ef hfr R2 (R1.e.mono0 l2) ra q2.2 fun d M' q w' v H' l R' r => k d M' q w' v H' (l1.trans l) R' r
theorem fin_froz (w0 w : Wd) (ρ : Env') (M : Store) (σ : St) (H : Hp) (D : Addr) (acc : List DL.D) (accV : List V) (Q' : DK) (Q : VK) (l : w0.Le0 w) (ef : w.fr = (D, .lst accV) :: w0.fr) (hn : ∀ q ∈ w0.fr, q.1 ≠ D) (R : RM (bgX X) w M H) (e : EnvR (bgX X) w ρ σ) (ra : RelL (bgX X) w acc accV) (q : Q' (.lst acc) M)
    (k : ∀ d M', Q' d M' → ∀ (w' : Wd) (v : V) (H' : Hp), w0.Le w' → RS (bgX X) w' ρ M' σ H' → Rel (bgX X) w' d v → Q v H') : Q (.ref D) H := by
  obtain ⟨eD, fD, nD⟩ := R.fr (D, .lst accV) (by rw [ef]; simp)
  have le : w.Le0 ⟨upd w.F D (.lst accV), w.as, w0.fr⟩ := ⟨fun a u h => by show upd w.F D _ a = some u; rw [upd_ne (ne_of_none h fD)]; exact h, List.prefix_rfl⟩
  have rr := ra.mono0 le
  refine k _ M q ⟨upd w.F D (.lst accV), w.as, w0.fr⟩ _ H ⟨(l.trans le).F, (l.trans le).as, rfl⟩ ⟨R.unhold ef hn, e.mono0 le⟩ (.lst (.inl (.inl upd_same)) rr.1 rr.2)
theorem fin_cell (w0 w : Wd) (ρ : Env') (M : Store) (σ : St) (H : Hp) (D : Addr) (acc : List DL.D) (accV : List V) (Q' : DK) (Q : VK) (l : w0.Le0 w) (ef : w.fr = (D, .lst accV) :: w0.fr) (hn : ∀ q ∈ w0.fr, q.1 ≠ D) (R : RM (bgX X) w M H) (e : EnvR (bgX X) w ρ σ) (ra : RelL (bgX X) w acc accV) (q : Q' (.ref M.length) (M ++ [.lst acc]))
    (k : ∀ d M', Q' d M' → ∀ (w' : Wd) (v : V) (H' : Hp), w0.Le w' → RS (bgX X) w' ρ M' σ H' → Rel (bgX X) w' d v → Q v H') : Q (.ref D) H := by
  have le : w.Le0 ⟨w.F, w.as ++ [D], w0.fr⟩ := ⟨fun _ _ h => h, List.prefix_append _ _⟩
  refine k _ _ q ⟨w.F, w.as ++ [D], w0.fr⟩ _ H ⟨(l.trans le).F, (l.trans le).as, rfl⟩ ⟨R.unholdM ef hn (.lst (ra.mono0 le)), e.mono0 le⟩ (.ref ?_)
  show (w.as ++ [D])[M.length]? = some D
  rw [← R.len, List.getElem?_append_right (Nat.le_refl _)]
  simp
def dYes : DTT := fun _ M Q => Q true M
theorem dts_nil : DTs X [] dYes := ptsM pts_nil fun σ H Q ⟨w, ρ, M, Q', R, h, k⟩ => k true M h w H (Wd.Le.refl w) R
theorem dts_one {c : Expr} {t : DTT} (h : DT X c t) : DTs X [c] t := pts_one h
theorem de_lc (hc : X.calm = true) (hN : X.N.Nodup) (hi : DI X tg iter src) (ok : BlkOk X.N X.env.scope scope own) (hv : ∀ i ∈ sh.slots, i ∈ own.map (·.2))
    (hg : ∀ (s : Shared) (H : Hp) (C : Addr) (cl : List (Str × Addr)) (fp : List Addr), PG (X.blk s H scope (compEnvC scope cl C X.env) fp) tg (sh.g X.K)) (ht : ∀ (s : Shared) (H : Hp) (C : Addr) (cl : List (Str × Addr)) (fp : List Addr), DTs (X.blk s H scope (compEnvC scope cl C X.env) fp) ifs tt)
    (he : ∀ (s : Shared) (H : Hp) (C : Addr) (cl : List (Str × Addr)) (fp : List Addr), DE (X.blk s H scope (compEnvC scope cl C X.env) fp) elt te) (hs : ∀ x, foldedSetIterable iter X.env x = pure x := by intro _; rfl) :
    DE X (.ListComp elt [⟨tg, iter, ifs, 0⟩] scope pos) (dLc src sh tt te (own.map (·.2))) :=
  peM (pe_lc hc hN hi ok hg ht he hs) fun σ H Q h => up_lc (fin := fun acc M Q => Q (.lst acc) M) hv fin_froz h
theorem de_lcM (hc : X.calm = true) (hN : X.N.Nodup) (hi : DI X tg iter src) (ok : BlkOk X.N X.env.scope scope own) (hv : ∀ i ∈ sh.slots, i ∈ own.map (·.2))
    (hg : ∀ (s : Shared) (H : Hp) (C : Addr) (cl : List (Str × Addr)) (fp : List Addr), PG (X.blk s H scope (compEnvC scope cl C X.env) fp) tg (sh.g X.K)) (ht : ∀ (s : Shared) (H : Hp) (C : Addr) (cl : List (Str × Addr)) (fp : List Addr), DTs (X.blk s H scope (compEnvC scope cl C X.env) fp) ifs tt)
    (he : ∀ (s : Shared) (H : Hp) (C : Addr) (cl : List (Str × Addr)) (fp : List Addr), DE (X.blk s H scope (compEnvC scope cl C X.env) fp) elt te) (hs : ∀ x, foldedSetIterable iter X.env x = pure x := by intro _; rfl) :
    DE X (.ListComp elt [⟨tg, iter, ifs, 0⟩] scope pos) (dLcM src sh tt te (own.map (·.2))) :=
  peM (pe_lc hc hN hi ok hg ht he hs) fun σ H Q h => up_lc (fin := fun acc M Q => Q (.ref M.length) (M ++ [MO.lst acc])) hv fin_cell h
end
end DL

set_option Elab.async false
set_option linter.all false
set_option maxRecDepth 100000
set_option maxHeartbeats 2000000
/-! DLFun: defs and their calls over data; further built-ins; try whose body raises nothing. -/
namespace DL
open PySem L2
open PyProof.Rows hiding St

/-! ### defs -/
abbrev DSp := List D → Store → DK → Prop
def toSp (b : Bg) (sp : DSp) : Sp := fun vs H Q _ => ∃ (w : Wd) (ds : List D) (M : Store) (Q' : DK), RM b w M H ∧ RelL b w ds vs ∧ sp ds M Q' ∧
  ∀ d M', Q' d M' → ∀ (w' : Wd) (v : V) (H' : Hp), w.Le w' → RM b w' M' H' → Rel b w' d v → Q v H'
/-- the def of the module by this name keeps this promise -/
def Def (P : Program) (w : World) (K : PySem.W.Frag) (mg : Str → Option Value) (base : Heap) (x : Str) (k : Nat) (ps : List Str) (sp : DSp) : Prop :=
  ∃ f fd, mg x = some (.ref f) ∧ PySem.W.keepIn K (.ref f) = true ∧ Binds K fd ps [] ∧ FnOk P w K mg base CX0 k f fd ps (toSp ⟨P, w, K⟩ sp)
def startD (n : Nat) (ds : List D) : Env' := ds.map some ++ List.replicate (n - ds.length) none
def endsD (M : Store) (Q : DK) : DEnds := { nx := fun _ M' => RetOk M .non M' Q, rt := fun d M' => RetOk M d M' Q }
theorem startD_rel {b : Bg} {w : Wd} {N : List Str} {ds : List D} {vs : List V} (r : RelL b w ds vs) : EnvR b w (startD N.length ds) (L2.start N vs) := by
  refine ⟨by simp [startD, L2.start, r.1], fun i d e => ?_⟩
  unfold startD at e
  unfold L2.start
  by_cases hi : i < ds.length
  · rw [List.getElem?_append_left (by simpa using hi)] at e
    rw [List.getElem?_map] at e
    obtain ⟨d', ed, h⟩ := Option.map_eq_some_iff.mp e
    cases h
    obtain ⟨v, ev, rv⟩ := r.get ed
    refine ⟨v, ?_, rv⟩
    rw [List.getElem?_append_left (by simpa [← r.1] using hi), List.getElem?_map, ev]
    rfl
  · rw [List.getElem?_append_right (by simpa using hi)] at e
    rw [List.getElem?_replicate] at e
    split at e
    · cases e
    · cases e
section
variable {P : Program} {w : World} {K : PySem.W.Frag} {mg : Str → Option Value} {base : Heap}
/-- THE RULE for a def over data: the body's derivation, and what the body says of the data -/
theorem fd_mk {x qual : Str} {st : Stmt} {f : Addr} {fd : FuncData} {N ps : List Str} {k : Nat} {sp : DSp} (F : Fun K x qual st f fd) (S : FnScope N ps (defScope st)) (len : ∀ ds M Q, sp ds M Q → ds.length = ps.length)
    (h : ∃ t : DTS, (∀ (cdv : Value) (A : Around) (outer : List Env) (s : Shared) (H : Hp) (E : XK), Room k (A.deeper (envOfC qual (defScope st) s.heap.objs.size f cdv)) → DSs (cxOf CX0 P w K mg base N qual (defScope st) f cdv A outer s H E).nox (defBody st) t) ∧
      ∀ ds M Q, sp ds M Q → t (endsD M Q) (startD N.length ds) M) : FnOk P w K mg base CX0 (k + 1) f fd ps (toSp ⟨P, w, K⟩ sp) := by
  obtain ⟨t, der, data⟩ := h
  refine F.ok S (fun vs H Q E ⟨w, ds, M, Q', R, r, q, _⟩ => r.1.symm.trans (len ds M Q' q)) fun cdv A outer s H vs Q E hr ⟨w, ds, M, Q', R, r, q, kk⟩ => ?_
  refine ⟨_, der cdv A outer s H E hr, w, startD N.length ds, M, endsD M Q', ⟨R, startD_rel r⟩, data ds M Q' q, ?_, ?_, ?_, ?_⟩
  · intro ρ' M' h' w' σ' H' l R'
    obtain ⟨d', M1, w3, l3, R3, r3, q3⟩ := RetOk.sound (v := .non) h' R l R'.m .non
    exact kk d' M1 q3 w3 .non H' l3 R3 r3
  · exact fun _ _ z => z.elim
  · exact fun _ _ z => z.elim
  · intro d M' h' w' v H' l R' r'
    obtain ⟨d', M1, w3, l3, R3, r3, q3⟩ := RetOk.sound h' R l R' r'
    exact kk d' M1 q3 w3 v H' l3 R3 r3
end
section
variable {X : Cx} {x : Str} {k : Nat} {ps : List Str} {sp : DSp} {e : Expr} {es : List Expr} {p pos : Pos} {tr : DTA}
def dCall (sp : DSp) (t : DTA) : DTE := fun ρ M Q => t ρ M fun ds M1 => sp ds M1 Q
theorem de_call (F : Def X.prog X.w X.K X.mg X.base x k ps sp) (hr : Room k X.A) (hg : Gl X x) (ha : DA X (e :: es) tr) (hdb : (x == ("__debug__" : Str)) = false := by decide)
    (he : starEach (e :: es) X.env = (false, eval e X.env) :: starEach es X.env := by rfl) (hpl : (backTo pos (starEach es X.env)).any (·.1) = false := by rfl) : DE X (.Call (.Name x p) (e :: es) [] pos) (dCall sp tr) := by
  obtain ⟨f, fd, hm, hk, hb, F⟩ := F
  refine peM (pe_call (E := E0) F hr hg hm hk hb .nil pass0 ha hdb he hpl) fun σ H Q ⟨w, ρ, M, Q', R, h, kk⟩ => ?_
  refine ⟨w, ρ, M, _, R, h, fun ds M1 h1 w1 vs H1 l1 R1 r1 => ?_⟩
  show toSp _ sp (vs ++ []) H1 Q E0
  rw [List.append_nil]
  exact ⟨w1, ds, M1, Q', R1.m, r1, h1, fun d M' q w' v H' l R' r => kk d M' q w' v H' (l1.trans l) ⟨R', R1.e.mono l⟩ r⟩
theorem de_call0 (F : Def X.prog X.w X.K X.mg X.base x k ps sp) (hr : Room k X.A) (hg : Gl X x) (hdb : (x == ("__debug__" : Str)) = false := by decide) : DE X (.Call (.Name x p) [] [] pos) (dCall sp dNil) := by
  obtain ⟨f, fd, hm, hk, hb, F⟩ := F
  refine peM (pe_call0 (E := E0) F hr hg hm hk hb .nil pass0 hdb) fun σ H Q ⟨w, ρ, M, Q', R, h, kk⟩ => ?_
  show toSp _ sp ([] ++ []) H Q E0
  exact ⟨w, [], M, Q', R.m, .nil, h, fun d M' q w' v H' l R' r => kk d M' q w' v H' l ⟨R', R.e.mono l⟩ r⟩

/-! ### slices -/
def DTO := Env' → Store → (Option Int → Store → Prop) → Prop
def upO (b : Bg) (t : DTO) : TO := fun σ H Q => ∃ (w : Wd) (ρ : Env') (M : Store) (Q' : Option Int → Store → Prop), RS b w ρ M σ H ∧ t ρ M Q' ∧ ∀ o M', Q' o M' → ∀ (w' : Wd) (H' : Hp), w.Le w' → RS b w' ρ M' σ H' → Q o H'
def dNoPart : DTO := fun _ M Q => Q none M
def dPart (t : DTE) : DTO := fun ρ M Q => t ρ M fun x M1 => match intOf x with | some i => Q (some i) M1 | none => False
abbrev DO' (X : Cx) (e : Option Expr) (t : DTO) : Prop := PO X e (upO (bgX X) t)
variable {te : DTE} {lo hi : Option Expr} {tl th : DTO} {p2 : Pos} {o : Option Expr}
theorem poM {t t' : TO} (h : PO X o t) (m : ∀ σ H Q, t' σ H Q → t σ H Q) : PO X o t' := ⟨fun pins s σ H Q I q => h.run pins s σ H Q I (m σ H Q q)⟩
theorem do_none : DO' X none dNoPart := poM po_none fun σ H Q ⟨w, ρ, M, Q', R, h, kk⟩ => kk none M h w H (Wd.Le.refl w) R
theorem do_some (h : DE X e te) : DO' X (some e) (dPart te) := poM (po_some h) fun σ H Q ⟨w, ρ, M, Q', R, h, kk⟩ => by
  refine ⟨w, ρ, M, _, R, h, fun x M1 h1 w1 v1 H1 l1 R1 r1 => ?_⟩
  split at h1
  · rename_i i ei
    rw [intOf_eq ei] at r1
    cases r1
    exact ⟨i, rfl, kk _ M1 h1 w1 H1 l1 R1⟩
  · exact h1.elim
def cutD (xs : List D) (lo hi : Option Int) : List D := (xs.drop (HT.sIx xs.length 0 lo)).take (HT.sIx xs.length xs.length hi - HT.sIx xs.length 0 lo)
theorem cut_rel {b : Bg} {w : Wd} {ds : List D} {vs : List V} (r : RelL b w ds vs) (lo hi : Option Int) : RelL b w (cutD ds lo hi) (cutV vs lo hi) := by
  unfold cutD cutV
  rw [← r.1]
  exact (r.drop _).take _
/-- x[lo:hi] of a text, a list (a new one, that stays as it is), a tuple -/
def sliceR (x : D) (lo hi : Option Int) (M : Store) (Q : DK) : Prop := match x with
  | .str z => z.length ≤ sizeLine ∧ Q (.str (cutS z lo hi)) M
  | .tup ds => Q (.tup (cutD ds lo hi)) M
  | x => match viewL M x with | some ds => Q (.lst (cutD ds lo hi)) M | none => False
def dSl (te : DTE) (tl th : DTO) : DTE := fun ρ M Q => te ρ M fun x M1 => tl ρ M1 fun l M2 => th ρ M2 fun u M3 => sliceR x l u M3 Q
def rSlX (b : Bg) : V → Option Int → Option Int → Hp → VK → Prop := fun v lo hi H Q => ∃ (w : Wd) (M : Store) (x : D) (Q' : DK), RM b w M H ∧ Rel b w x v ∧ sliceR x lo hi M Q' ∧
  ∀ d M', Q' d M' → ∀ (w' : Wd) (z : V) (H' : Hp), w.Le w' → RM b w' M' H' → Rel b w' d z → Q z H'
theorem cutD_whole {xs : List D} {lo hi : Option Int} (h : HT.sIx xs.length 0 lo = 0 ∧ HT.sIx xs.length xs.length hi = xs.length) : cutD xs lo hi = xs := by
  unfold cutD
  rw [h.1, h.2]
  simp
theorem sl_of {X : Cx} : SlR X (rSlX (bgX X)) := by
  intro pins s σ H x v vl vu lo hi sl Q I rx hs pl pu h
  obtain ⟨w, M, d, Q', R, r, h, kk⟩ := h
  unfold sliceR at h
  split at h
  · rename_i z
    cases r
    exact sl_str pins s σ H _ v vl vu lo hi sl Q I rx hs pl pu ⟨z, rfl, h.1, kk _ M h.2 w _ H (Wd.Le.refl w) R (.str _)⟩
  · rename_i ds
    cases r with
    | tup g l q =>
      rename_i a vs
      have rl : RelL (bgX X) w ds vs := ⟨l, q⟩
      refine sl_tupA pins s σ H _ v vl vu lo hi sl Q I rx hs pl pu ⟨a, vs, rfl, sqT_mono (K := X.K) R.sub g, fun hw => ?_, fun hw p hp => ?_⟩
      · rw [cutD_whole (by rw [l]; exact hw)] at h
        exact kk _ M h w _ H (Wd.Le.refl w) R (.tup g l q)
      · exact kk _ M h _ _ _ (Wd.froz_le (R.nF hp)) (R.froz hp) (frozT R (cut_rel rl lo hi) hp)
  · rename_i x' n1 n2
    split at h
    · rename_i ds e
      obtain ⟨a, vs, rfl, g, rl⟩ := viewL_at R r e
      exact sl_list pins s σ H _ v vl vu lo hi sl Q I rx hs pl pu ⟨a, vs, rfl, g, fun p hp => kk _ M h _ _ _ (Wd.froz_le (R.nF hp)) (R.froz hp) (frozL R (cut_rel rl lo hi) hp)⟩
    · exact h.elim
theorem de_slice (h : DE X e te) (hl : DO' X lo tl) (hh : DO' X hi th) : DE X (.Subscript e (.Slice lo hi none p2) pos) (dSl te tl th) := by
  refine peM (pe_slice sl_of h hl hh) fun σ H Q ⟨w, ρ, M, Q', R, h, kk⟩ => ?_
  refine ⟨w, ρ, M, _, R, h, fun x M1 h1 w1 v1 H1 l1 R1 r1 => ?_⟩
  refine ⟨w1, ρ, M1, _, R1, h1, fun o M2 h2 w2 H2 l2 R2 => ?_⟩
  refine ⟨w2, ρ, M2, _, R2, h2, fun o3 M3 h3 w3 H3 l3 R3 => ?_⟩
  exact ⟨w3, M3, x, Q', R3.m, r1.mono (l2.trans l3), h3, fun d M' q w' v' H' l' R' r' => kk d M' q w' v' H' (((l1.trans l2).trans l3).trans l') ⟨R', R3.e.mono l'⟩ r'⟩
end
end DL

set_option Elab.async false
set_option linter.all false
set_option maxRecDepth 100000
set_option maxHeartbeats 2000000
/-! DLSort: sorted over data: of a list, of a dict's keys, of a set of texts. -/
namespace DL
open PySem L2
open PyProof.Rows hiding St

mutual
theorem reads_lt {h : Heap} : ∀ (d : PyData) {v : Value} {as : List Addr}, Reads h v d as → ∀ x ∈ as, x < h.objs.size
  | .none, _, _, r => by cases r; simp
  | .bool _, _, _, r => by cases r; simp
  | .int _, _, _, r => by cases r; simp
  | .str _, _, _, r => by cases r; simp
  | .list ds, _, _, r => by
    cases r with
    | list ho _ _ ra =>
      intro x hx
      rcases List.mem_cons.mp hx with e | e
      · rw [e]; exact Heap.lt_size ho
      · exact readsAll_lt ds ra x e
  | .tuple ds, _, _, r => by
    cases r with
    | tuple ho _ _ ra => exact readsAll_lt ds ra
  | .dict kvs, _, _, r => by
    cases r with
    | dict ho _ _ ra rb =>
      intro x hx
      rw [List.cons_append] at hx
      rcases List.mem_cons.mp hx with e | e
      · rw [e]; exact Heap.lt_size ho
      · rcases List.mem_append.mp e with e | e
        · exact readsK_lt kvs ra x e
        · exact readsV_lt kvs rb x e
theorem readsAll_lt {h : Heap} : ∀ (ds : List PyData) {vs : List Value} {as : List Addr}, ReadsAll h vs ds as → ∀ x ∈ as, x < h.objs.size
  | [], _, _, r => by cases r; simp
  | d :: ds, _, _, r => by
    cases r with
    | cons h1 h2 =>
      intro x hx
      rcases List.mem_append.mp hx with e | e
      · exact reads_lt d h1 x e
      · exact readsAll_lt ds h2 x e
theorem readsK_lt {h : Heap} : ∀ (kvs : List (PyData × PyData)) {vs : List Value} {as : List Addr}, ReadsAll h vs (kvs.map (·.1)) as → ∀ x ∈ as, x < h.objs.size
  | [], _, _, r => by cases r; simp
  | (a, b) :: ds, _, _, r => by
    cases r with
    | cons h1 h2 =>
      intro x hx
      rcases List.mem_append.mp hx with e | e
      · exact reads_lt a h1 x e
      · exact readsK_lt ds h2 x e
theorem readsV_lt {h : Heap} : ∀ (kvs : List (PyData × PyData)) {vs : List Value} {as : List Addr}, ReadsAll h vs (kvs.map (·.2)) as → ∀ x ∈ as, x < h.objs.size
  | [], _, _, r => by cases r; simp
  | (a, b) :: ds, _, _, r => by
    cases r with
    | cons h1 h2 =>
      intro x hx
      rcases List.mem_append.mp hx with e | e
      · exact reads_lt b h1 x e
      · exact readsV_lt ds h2 x e
end
section
variable {X : Cx} {pins : List (Addr × Obj)} {σ : St} {H : Hp} {s : Shared}
theorem each_of_vals {β : Type} {g : β → V} : ∀ {zs : List β} {us : List Value}, Vals (zs.map g) us → PySem.W.EachIs (fun u z => RelV (g z) u) us zs
  | [], _, .nil => .nil
  | _ :: _, _, .cons r t => .cons r (each_of_vals t)
theorem vals_of_each {β : Type} {g : β → V} : ∀ {zs : List β} {us : List Value}, PySem.W.EachIs (fun u z => RelV (g z) u) us zs → Vals (zs.map g) us
  | _, _, .nil => .nil
  | _, _, .cons r t => .cons r (vals_of_each t)
theorem each_reads {β : Type} (I : Inv X pins σ H s) {g : β → V} {enc : β → PyData} : ∀ {zs : List β} {us : List Value}, (∀ z ∈ zs, Dp X.K H (g z) (enc z)) → Vals (zs.map g) us → PySem.W.EachIs (fun u z => ∃ as, Reads s.heap u (enc z) as ∧ s.heap.objs.size ∉ as) us zs
  | [], _, _, .nil => .nil
  | z :: zs, _, h, .cons r t => by
    obtain ⟨as, q⟩ := Dp.reads I (enc z) (g z) _ (h z (List.mem_cons_self ..)) r
    exact .cons ⟨as, q, fun hm => Nat.lt_irrefl _ (reads_lt _ q _ hm)⟩ (each_reads I (fun y hy => h y (List.mem_cons_of_mem _ hy)) t)
/-- what sorted does behind the collecting -/
structure SrcOk (X : Cx) (H : Hp) {β : Type} (zs : List β) (g : β → V) (enc : β → PyData) : Prop where
  dp : ∀ z ∈ zs, Dp X.K H (g z) (enc z)
  al : PySem.W.AllAlike (zs.map enc)
  so : PySem.W.Sortable (zs.map enc)
  len : zs.length ≤ sizeLine
  dep : ∀ z ∈ zs, (enc z).depth ≤ 8
theorem sorted_col {β : Type} {u : Value} {Q : VK} (hu : X.A.units + 64 < cLine)
    (col : ∀ (R : List Value → Shared → Prop) (E : Value → Shared → Prop), (∀ (s' : Shared) (us : List Value) (zs : List β) (g : β → V) (enc : β → PyData), Inv X pins σ H s' → Vals (zs.map g) us → SrcOk X H zs g enc →
      (∀ p, H p = none → Q (.ref p) (upd H p (.lst ((zs.mergeSort (PySem.W.dataLe false enc)).map g)))) → R us s') → wpAny (model X.prog X.w) X.A.in1 (collect u) R E s) :
    wpAny (model X.prog X.w) X.A (call (.builtin "sorted") [u]) (EP X pins σ Q) X.xe s := by
  refine Calls.call_function_entry PyProof.Rows.kind_sorted PyProof.Rows.plain_sorted PyProof.Rows.entry_sorted (PyProof.Rows.args_sorted1 _) ?_
  unfold Builtin.«sorted»
  refine wpAny_bind (m := checkCount "sorted" 1 1 _) (wpAny_pure ?_)
  refine wpAny_bind (col _ _ fun s' us zs g enc I rv ok q => ?_)
  have hl : us.length = zs.length := by rw [← rv.length, List.length_map]
  have hL : us.length ≤ sizeLine := by rw [hl]; exact ok.len
  refine wpAny_bind (wpAny_newList ?_ hL)
  have hoL : (s'.heap.push (seqObj "list" us.toArray 0)).get? s'.heap.objs.size = some (seqObj "list" us.toArray 0) := Heap.get?_push_size _ rfl
  have kp : ∀ b o, s'.heap.get? b = some o → (s'.heap.push (seqObj "list" us.toArray 0)).get? b = some o := fun b o e => Heap.get?_push_of_some _ e
  have er := (each_reads I ok.dp rv).mono (R' := fun u z => ∃ as, Reads (s'.heap.push (seqObj "list" us.toArray 0)) u (enc z) as ∧ s'.heap.objs.size ∉ as) fun _ _ ⟨as, r, n⟩ => ⟨as, PyProof.Rows.Reads.keeps kp r, n⟩
  refine wpAny_bind (wpAny_holding (PySem.W.list_sort_data (s := { s' with heap := s'.heap.push (seqObj "list" us.toArray 0) }) hoL (each_of_vals rv) er ok.al ok.so ok.len ?_ fun out hol eo => ?_))
  · intro b hb
    have h1 := ok.dep b hb
    have h2 : X.A.in1.units = X.A.units + 1 := rfl
    omega
  obtain ⟨e', he'⟩ := PyProof.Rows.sortedHeap_at (vs := us) (out := out.toArray) hoL
  have rv' := vals_of_each eo
  refine wpAny_pure ⟨_, rfl, .ref s'.heap.objs.size, upd H s'.heap.objs.size (.lst ((zs.mergeSort (PySem.W.dataLe false enc)).map g)), I.laid (t' := s'.toks) (fun b u e => ?_) (Nat.le_refl _)
    (show ObjOk X.prog X.w _ _ _ (.lst _) from ⟨?_, out, e', rv', he'⟩), rfl, q _ (I.hok.fresh (Nat.le_refl _))⟩
  · have hb : b < s'.heap.objs.size := Heap.lt_size e
    rw [PyProof.Rows.sortedHeap_old (Nat.ne_of_lt hb) (by rw [size_push']; exact Nat.lt_succ_of_lt hb)]
    exact Heap.get?_push_of_some _ e
  · rw [List.length_map, (List.mergeSort_perm zs _).length_eq]
    exact ok.len
end

/-! ### over data -/
theorem relL_of {b : Bg} {w : Wd} {γ : Type} {f : γ → D} {g : γ → V} : ∀ {zs : List γ}, (∀ z ∈ zs, Rel b w (f z) (g z)) → RelL b w (zs.map f) (zs.map g)
  | [], _ => .nil
  | z :: zs, h => .cons (h z (List.mem_cons_self ..)) (relL_of fun y hy => h y (List.mem_cons_of_mem _ hy))
theorem zip_rel {b : Bg} {w : Wd} {β : Type} {f : β → D} : ∀ {bs : List β} {vs : List V}, RelL b w (bs.map f) vs → (bs.zip vs).map (·.1) = bs ∧ (bs.zip vs).map (·.2) = vs ∧ ∀ z ∈ bs.zip vs, z.1 ∈ bs ∧ Rel b w (f z.1) z.2
  | [], vs, r => by
    have : vs = [] := List.length_eq_zero_iff.mp r.1.symm
    subst this
    exact ⟨rfl, rfl, fun z h => by cases h⟩
  | x :: bs, [], r => by cases r.1
  | x :: bs, v :: vs, r => by
    obtain ⟨h1, h2, h3⟩ := zip_rel (bs := bs) (vs := vs) (f := f) (b := b) (w := w) ⟨Nat.succ.inj r.1, fun i a c e1 e2 => r.2 (i + 1) a c e1 e2⟩
    refine ⟨by rw [List.zip_cons_cons, List.map_cons, h1], by rw [List.zip_cons_cons, List.map_cons, h2], fun z hz => ?_⟩
    rw [List.zip_cons_cons] at hz
    rcases List.mem_cons.mp hz with e | e
    · subst e
      exact ⟨List.mem_cons_self .., r.2 0 _ _ rfl rfl⟩
    · exact ⟨List.mem_cons_of_mem _ (h3 z e).1, (h3 z e).2⟩
/-- what may be sorted: a list or a tuple, a dict's keys -/
def srcD (M : Store) (x : D) : Option (List D) :=
  match x with
  | .dn kvs => some (kvs.map fun p => kD p.1)
  | .ref n => match M[n]? with
    | some (.lst ds) => some ds
    | some (.dn kvs) => some (kvs.map fun p => kD p.1)
    | _ => none
  | x => viewS M x
structure SrtOk (M : Store) {β : Type} (bs : List β) (f : β → D) (enc : β → PyData) : Prop where
  py : ∀ b ∈ bs, PyOf M (f b) (enc b)
  al : PySem.W.AllAlike (bs.map enc)
  so : PySem.W.Sortable (bs.map enc)
  len : bs.length ≤ sizeLine
  dep : ∀ b ∈ bs, (enc b).depth ≤ 8
def sortedR : DRC := fun xs M Q => match xs with
  | [x] => ∃ (β : Type) (bs : List β) (f : β → D) (enc : β → PyData), srcD M x = some (bs.map f) ∧ SrtOk M bs f enc ∧ Q (.lst ((bs.mergeSort (PySem.W.dataLe false enc)).map f)) M
  | _ => False
section
variable {X : Cx} {pins : List (Addr × Obj)} {σ : St} {H : Hp} {s : Shared}
theorem sorted_fin {w : Wd} {M : Store} {β : Type} {bs : List β} {f : β → D} {enc : β → PyData} {vs : List V} {u : Value} {Q : VK} {Q' : DK} (hu : X.A.units + 64 < cLine) (R : RM (bgX X) w M H) (rl : RelL (bgX X) w (bs.map f) vs) (ok : SrtOk M bs f enc)
    (q : Q' (.lst ((bs.mergeSort (PySem.W.dataLe false enc)).map f)) M) (kk : ∀ d M', Q' d M' → ∀ (w' : Wd) (z : V) (H' : Hp), w.Le w' → RM (bgX X) w' M' H' → Rel (bgX X) w' d z → Q z H')
    (col : ∀ (R : List Value → Shared → Prop) (E : Value → Shared → Prop), (∀ (s' : Shared) (us : List Value), Inv X pins σ H s' → Vals vs us → R us s') → wpAny (model X.prog X.w) X.A.in1 (collect u) R E s) :
    wpAny (model X.prog X.w) X.A (call (.builtin "sorted") [u]) (EP X pins σ Q) X.xe s := by
  obtain ⟨h1, h2, h3⟩ := zip_rel rl
  refine sorted_col (H := H) (β := β × V) hu fun R' E k => col R' E fun s' us I rv => ?_
  refine k s' us (bs.zip vs) (·.2) (fun z => enc z.1) I (by rw [h2]; exact rv) ⟨?_, ?_, ?_, ?_, ?_⟩ fun p hp => ?_
  · exact fun z hz => (ok.py z.1 (h3 z hz).1).dp R _ (h3 z hz).2
  · have e : (bs.zip vs).map (fun z => enc z.1) = bs.map enc := by
      conv => rhs; rw [← h1]
      rw [List.map_map]
      rfl
    rw [e]
    exact ok.al
  · have e : (bs.zip vs).map (fun z => enc z.1) = bs.map enc := by
      conv => rhs; rw [← h1]
      rw [List.map_map]
      rfl
    rw [e]
    exact ok.so
  · rw [← List.length_map (f := (·.1)), h1]
    exact ok.len
  · exact fun z hz => ok.dep z.1 (h3 z hz).1
  · have e : ((bs.zip vs).mergeSort (PySem.W.dataLe false fun z => enc z.1)).map (·.1) = bs.mergeSort (PySem.W.dataLe false enc) := by
      rw [List.map_mergeSort (f := (·.1)) (r := PySem.W.dataLe false fun z : β × V => enc z.1) (s := PySem.W.dataLe false enc) (fun a _ b _ => rfl), h1]
    have rl2 : RelL (bgX X) w ((bs.mergeSort (PySem.W.dataLe false enc)).map f) (((bs.zip vs).mergeSort (PySem.W.dataLe false fun z => enc z.1)).map (·.2)) := by
      rw [← e, List.map_map]
      exact relL_of fun z hz => (h3 z ((List.mergeSort_perm _ _).mem_iff.mp hz)).2
    exact kk _ M q _ _ _ (Wd.froz_le (R.nF hp)) (R.froz hp) (frozL R rl2 hp)
/-- a dict with tuple keys: its keys collected -/
theorem collect_dn {w : Wd} {M : Store} {a : Addr} {ds : List (NestedKey × D)} {xs : List (NestedKey × Addr × Value)} {f : Nat → V} {R' : List Value → Shared → Prop} {E : Value → Shared → Prop} (hc : X.calm = true) (I : Inv X pins σ H s) (R : RM (bgX X) w M H) (d : DnAt (bgX X) w H a ds xs f)
    (h : ∀ (s' : Shared) (us : List Value), Inv X pins σ H s' → Vals (xs.map fun x => V.ref x.2.1) us → R' us s') : wpAny (model X.prog X.w) X.A.in1 (collect (.ref a)) R' E s := by
  obtain ⟨dd, hz, lo⟩ := d.dict I R
  obtain ⟨es, ep, raw, hsz, hes⟩ := dd.raw
  refine PySem.W.kdu_collect (A := X.A.in1) (PySem.KdlSrc.rawDict (es := es) (ep := ep) lo) (I.ok.hd hc) raw (Nat.le_trans (Nat.le_of_eq hsz) hz) fun h' tk acc hk hacc => ?_
  refine h { s with heap := h', toks := tk } acc.toList (I.kept hk) (vals_of_idx _ _ (by rw [Array.length_toList, hacc.1, hsz, List.length_map]) fun j u e => ?_)
  obtain ⟨hi, eu⟩ := hacc.2 j u (by rw [← Array.getElem?_toList]; exact e)
  obtain ⟨y, e1, e2, _⟩ := hes j hi
  refine ⟨V.ref y.2.1, by rw [List.getElem?_map, e1]; rfl, ?_⟩
  rw [eu, e2]
  exact rfl
theorem collect_seq {a : Addr} {vs : List V} {R' : List Value → Shared → Prop} {E : Value → Shared → Prop} (I : Inv X pins σ H s) (g : SqL X.K H a vs ∨ SqT X.K H a vs)
    (h : ∀ (s' : Shared) (us : List Value), Inv X pins σ H s' → Vals vs us → R' us s') : wpAny (model X.prog X.w) X.A.in1 (collect (.ref a)) R' E s := by
  rcases g with g | g
  · obtain ⟨its, r, ⟨o, n, ho, hc, _, hd⟩, hz⟩ := I.list g
    have hl := r.length
    refine wpAny_collect_seq a (.inl rfl) ho hc hd (fun h' hk => ?_) (by rw [List.size_toArray]; omega)
    exact h _ _ (I.kept (t' := s.toks) hk) (by simpa using r)
  · obtain ⟨its, r, ⟨o, ho, hc, n, hd⟩, hz⟩ := I.tuple g
    have hl := r.length
    refine wpAny_collect_seq a (.inr rfl) ho hc hd (fun h' hk => ?_) (by rw [List.size_toArray]; omega)
    exact h _ _ (I.kept (t' := s.toks) hk) (by simpa using r)
theorem cx_sorted (hc : X.calm = true) (hu : X.A.units + 64 < cLine) : CallX X (.builtin "sorted") sortedR := by
  intro pins s σ H vs us Q I r h
  obtain ⟨w, M, xs, Q', R, r1, h, kk⟩ := h
  unfold sortedR at h
  split at h
  · rename_i x
    obtain ⟨β, bs, f, enc, e, ok, q⟩ := h
    obtain ⟨v, rfl, rx⟩ := r1.one
    obtain ⟨u, rfl, rv⟩ := vals1 r
    have seq : ∀ ds, viewS M x = some ds → ds = bs.map f → wpAny (model X.prog X.w) X.A (call (.builtin "sorted") [u]) (EP X pins σ Q) X.xe s := fun ds e1 e2 => by
      subst e2
      obtain ⟨a, vs, rfl, g, rl⟩ := viewS_at R rx e1
      cases rv
      exact sorted_fin hu R rl ok q kk fun R' E k => collect_seq I g k
    have dn : ∀ a kvs ys g, v = .ref a → DnAt (bgX X) w H a kvs ys g → kvs.map (fun p => kD p.1) = bs.map f → wpAny (model X.prog X.w) X.A (call (.builtin "sorted") [u]) (EP X pins σ Q) X.xe s := fun a kvs ys g e1 d e2 => by
      subst e1
      cases rv
      refine sorted_fin hu R (vs := ys.map fun x => V.ref x.2.1) ?_ ok q kk fun R' E k => collect_dn hc I R d k
      rw [← e2]
      refine ⟨?_, fun i a' b' e1 e2 => ?_⟩
      · have := congrArg List.length d.keys
        simpa using this
      · rw [List.getElem?_map] at e1 e2
        obtain ⟨kv, ekv, rfl⟩ := Option.map_eq_some_iff.mp e1
        obtain ⟨y, ey, rfl⟩ := Option.map_eq_some_iff.mp e2
        have ek : kv.1 = y.1 := by
          have := congrArg (fun l => l[i]?) d.keys
          simp only [List.getElem?_map, ekv, ey, Option.map_some, Option.some.injEq] at this
          exact this
        rw [ek]
        exact d.ks i y ey
    unfold srcD at e
    split at e
    · rename_i kvs
      obtain ⟨a, ys, g, ev, d⟩ := DnAt.of R rx
      exact dn a kvs ys g ev d (Option.some.inj e)
    · rename_i n
      split at e
      · rename_i ds en
        exact seq ds (by simp [viewS, en]) (Option.some.inj e)
      · rename_i kvs en
        obtain ⟨a, ys, g, ev, _, d⟩ := DnAt.cell R rx en
        exact dn a kvs ys g ev d (Option.some.inj e)
      · cases e
    · exact seq _ e rfl
  · exact h.elim
end
end DL

set_option Elab.async false
set_option linter.all false
set_option maxRecDepth 100000
set_option maxHeartbeats 4000000
/-! DLSet: sorted(set(list of texts)). -/
namespace DL
open PySem L2
open PySem.Spec PySem.Froz
open PyProof.Rows hiding St strKind
open PySem (strKind)

def keyS (e : Int × Value) : Str := match e.2 with | .str k _ => k | _ => ⟨#[]⟩
/-- the payload of a set: the texts of l, in some order; its table can be walked -/
structure SOk (w : World) (D : SD) (l : List Str) : Prop where
  good : ∀ e ∈ D.1.toList, ∃ k tk, e = (hashStr w k, Value.str k tk)
  perm : (D.1.toList.map keyS).Perm l
  fit : D.2.2.fits D.1.size = true
  ris : Ris D.2.2.place.toList
  led : w.params.followText "set-order" = true ∨ D.2.2.led = true
section
variable {P : Program} {w : World}
theorem SOk.sz {D : SD} {l : List Str} (o : SOk w D l) : D.1.size = l.length := by
  rw [← o.perm.length_eq, List.length_map, Array.length_toList]
theorem SOk.tx {D : SD} {l : List Str} (o : SOk w D l) : TxOk P w D l where
  el := fun e he => by
    obtain ⟨k, tk, rfl⟩ := o.good e he
    exact ⟨⟨k, is_str k tk, rfl⟩, rfl⟩
  mem := fun k => by
    rw [← o.perm.mem_iff, List.mem_map]
    constructor
    · rintro ⟨e, he, q⟩
      obtain ⟨k', tk, rfl⟩ := o.good e he
      have : k' = k := q
      subst this
      exact ⟨_, he, is_str _ _⟩
    · rintro ⟨e, he, q⟩
      obtain ⟨k', tk, rfl⟩ := o.good e he
      refine ⟨_, he, ?_⟩
      exact (strKind P w).inj (Value.str k' tk) k' k (is_str k' tk) q
  sz := o.sz
  fit := o.fit
theorem SOk.new {t : SetTable} {ep : Nat} (hf : t.fits 0 = true) (hr : t.place = #[]) (hl : w.params.followText "set-order" = true ∨ t.led = true) : SOk w (#[], ep, t) [] where
  good := fun e he => by simp at he
  perm := by simp
  fit := hf
  ris := by
    show Ris t.place.toList
    rw [hr]
    exact List.Pairwise.nil
  led := hl
theorem SOk.tail {ep : Nat} {es : Array (Int × Value)} {t : SetTable} {wd : Bool} {l : List Str} (o : SOk w (es, ep, t) l) : SOk w (tailTx ep es t wd) l := by
  unfold tailTx
  by_cases c : (!wd && t.tooFull) = true
  · rw [if_pos c]
    have p := relayAll_perm t es (SetTable.grown es.size)
    refine ⟨fun e he => o.good e (p.mem_iff.mp he), (p.map keyS).trans o.perm, relayAll_fits t es _, relayAll_ris t es _, o.led.imp id fun z => ?_⟩
    rw [relayAll_led]
    exact z
  · rw [if_neg c]
    exact ⟨o.good, o.perm, o.fit, o.ris, o.led⟩
theorem SOk.add {D : SD} {l : List Str} (o : SOk w D l) (k : Str) (tk : Tok) : SOk w (addTx (hashStr w k) (.str k tk) D) (k :: l) := by
  obtain ⟨es, ep, t⟩ := D
  have p := layNew_perm t es (hashStr w k) (.str k tk)
  rw [Array.toList_push] at p
  have q := p.trans (List.perm_append_singleton _ _)
  have hg : ∀ e ∈ (layNew t es (hashStr w k) (.str k tk)).1.toList, ∃ k tk, e = (hashStr w k, Value.str k tk) := fun e he => by
    rcases List.mem_cons.mp (q.mem_iff.mp he) with z | z
    · exact ⟨k, tk, z⟩
    · exact o.good e z
  have hp : ((layNew t es (hashStr w k) (.str k tk)).1.toList.map keyS).Perm (k :: l) := (q.map keyS).trans (List.Perm.cons k o.perm)
  have hf := layNew_fits t es (hashStr w k) (.str k tk)
  have hr := layNew_ris t es (hashStr w k) (.str k tk) o.ris
  have hl := layNew_led t es (hashStr w k) (.str k tk)
  unfold addTx
  refine SOk.tail ⟨hg, hp, ?_, ?_, ?_⟩
  · show SetTable.fits (if _ then _ else _) _ = true
    split
    · exact SetTable.fits_plain_off hf
    · exact hf
  · show Ris (SetTable.place (if _ then _ else _)).toList
    split <;> exact hr
  · refine o.led.imp id fun z => ?_
    show SetTable.led (if _ then _ else _) = true
    have z' : (layNew t es (hashStr w k) (.str k tk)).2.1.led = true := hl.trans z
    split <;> exact z'
end
def setObj (D : SD) : Obj := { cls := .type "set", data := .set D.1 D.2.1 D.2.2 }
section
variable {P : Program} {w : World} {A : Around} {E : Value → Shared → Prop} {s : Shared}
def ddS (l : List Str) : List Str → List Str
  | [] => l
  | k :: r => ddS (if k ∈ l then l else k :: l) r
theorem add_any {a : Addr} {D : SD} {l : List Str} {k : Str} {u : Tok} {Q : Bool → Shared → Prop} (ho : s.heap.get? a = some (sObj "set" D)) (F : SOk w D l) (hb : l.length + 1 < scanBound)
    (h : ∀ (b : Bool) (D' : SD) (h' : Heap), h'.get? a = some (sObj "set" D') → SOk w D' (if k ∈ l then l else k :: l) → Heap.SameBut a s.heap h' → Q b { s with heap := h' }) : wpAny (model P w) A (setAddHashed a (.str k u) (hashStr w k)) Q E s := by
  by_cases hk : k ∈ l
  · obtain ⟨es, ep, t⟩ := D
    have hd : (sObj "set" (es, ep, t)).data = .set es ep t := rfl
    have T : TxOk P w (es, ep, t) l := F.tx
    have hf : t.fits es.size = true := F.fit
    have hel : ElemsOf (strKind P w) es.toList := T.el
    have hsz : es.size = l.length := F.sz
    have hkey : (strKind P w).is k (.str k u) = true := is_str k u
    obtain ⟨j, hj⟩ : ∃ j, List.findIdx? (fun e => (strKind P w).is k e.2) es.toList = some j := by
      cases hr : List.findIdx? (fun e => (strKind P w).is k e.2) es.toList with
      | some j => exact ⟨j, rfl⟩
      | none =>
        obtain ⟨e, he, q⟩ := (T.mem k).mp hk
        have c := List.findIdx?_eq_none_iff.mp hr e he
        rw [q] at c
        cases c
    have h2 := h false (es, ep, t) s.heap ho (by rw [if_pos hk]; exact F) (Heap.SameBut.refl a s.heap)
    unfold setAddHashed setAddHashedIn
    refine wpAny_holding (wpAny_bind (wpAny_setState_of ho hd hf ?_))
    dsimp only
    rw [byScan_of rfl (by omega) hel]
    simp only [↓reduceIte]
    unfold setAddByScan
    refine wpAny_bind ?_
    refine wpAny_bind (wpAny_rule ?_)
    refine wpAny_bind (wpAny_setScan_of (knd := strKind P w) (k := k) hkey ho hd hf hel ?_)
    rw [hj]
    dsimp only
    exact wpAny_pure (wpAny_pure h2)
  · have q := F.add k u
    refine add_x ho (F.tx (P := P)) hk hb ?_
    refine h true _ _ (get_upd _ ho rfl) (by rw [if_neg hk]; exact q) ?_
    exact Heap.SameBut.update ..
end

section
variable {P : Program} {w : World} {A : Around} {E : Value → Shared → Prop} {s : Shared}
/-- the set of texts stands at a -/
def SAt (w : World) (h : Heap) (a : Addr) (l : List Str) : Prop := ∃ D, h.get? a = some (sObj "set" D) ∧ SOk w D l
theorem ddS_len : ∀ (r l : List Str), (ddS l r).length ≤ l.length + r.length
  | [], l => Nat.le_refl _
  | k :: r, l => by
    have h := ddS_len r (if k ∈ l then l else k :: l)
    show (ddS _ r).length ≤ _
    by_cases c : k ∈ l
    · rw [if_pos c] at h ⊢
      rw [List.length_cons]
      omega
    · rw [if_neg c] at h ⊢
      rw [List.length_cons] at h ⊢
      omega
theorem set_loop {I : Addr} {fp wr : List Addr} {G : Array GenState → Array GenState → Prop} {St : Nat → Shared → Prop} {R : Result → Shared → Prop} {xs : List Str}
    (W : WalksS P w A.in1 I fp wr G xs.length (fun i v => ∃ t, v = Value.str (xs.getD i Str.empty) t) St) (S : Addr) (hSf : S ∉ fp) :
    ∀ (rest : List Str) (i : Nat) (l : List Str) (s : Shared), xs.drop i = rest → i ≤ xs.length → l.length + rest.length < scanBound → St i s → SAt w s.heap S l →
      (∀ s', Moved (S :: wr) G s s' → SAt w s'.heap S (ddS l rest) → R (.ok (.ret .none)) s') → codeAny (model P w) A (.builtin "set.update.loop" ⟨[.ref S, .ref I], []⟩) R s := by
  have hSw : S ∉ wr := fun h => hSf (W.sub _ h)
  have up : ∀ b ∈ wr, b ∈ S :: wr := fun b hb => List.mem_cons_of_mem _ hb
  intro rest
  induction rest with
  | nil =>
    intro i l s hd hi hb hst hS hR
    have e : i = xs.length := by
      have := congrArg List.length hd
      rw [List.length_drop, List.length_nil] at this
      omega
    subst e
    refine codeAny_builtin F.entry_set_update_loop ?_
    rw [Around.under_plainId F.plain_set_update_loop _]
    show wpAny _ A.in1 (pyNext (.ref I) >>= _) _ _ s
    refine wpAny_bind (W.done s _ _ hst fun s' hm => ?_)
    obtain ⟨D, ho, ok⟩ := hS
    exact wpAny_pure (hR s' (hm.mono up) ⟨D, hm.heap S _ hSw ho, ok⟩)
  | cons k rest ih =>
    intro i l s hd hi hb hst hS hR
    have hlt : i < xs.length := by
      have := congrArg List.length hd
      rw [List.length_drop, List.length_cons] at this
      omega
    have hk : xs.getD i Str.empty = k := by
      have q := List.getElem?_drop (xs := xs) (i := i) (j := 0)
      rw [hd] at q
      rw [List.getD_eq_getElem?_getD]
      have q' : xs[i]? = some k := q.symm
      rw [q']
      rfl
    have hd' : xs.drop (i + 1) = rest := by
      have q := congrArg List.tail hd
      rw [List.tail_drop] at q
      exact q
    refine codeAny_builtin F.entry_set_update_loop ?_
    rw [Around.under_plainId F.plain_set_update_loop _]
    show wpAny _ A.in1 (pyNext (.ref I) >>= _) _ _ s
    refine wpAny_bind (W.item i s _ _ hlt hst fun v s' hP hst' hm => ?_)
    obtain ⟨t, rfl⟩ := hP
    rw [hk]
    obtain ⟨D, ho, ok⟩ := hS
    show wpAny _ A.in1 (holding [Value.str k t] (setAdd S (.str k t)) >>= _) _ _ s'
    refine wpAny_bind (wpAny_holding ?_)
    unfold setAdd
    refine wpAny_holding ?_
    refine wpAny_bind ((strKind P w).pyHash (k := k) (is_str k t) ?_)
    rw [List.length_cons] at hb
    refine add_any (s := { s' with toks := s'.toks + 1 }) (hm.heap S _ hSw ho) ok (by omega) fun b D' h' ho' ok' hsb => ?_
    have hl' : (if k ∈ l then l else k :: l).length + rest.length < scanBound := by
      split
      · omega
      · rw [List.length_cons]; omega
    refine wpAny_pure ⟨plainId_quiet F.plain_set_update_loop _, ih (i + 1) _ _ hd' hlt hl' (W.frame _ s' _ _ hst' (Nat.le_succ _) fun b hb o e => ?_) ⟨D', ho', ok'⟩ fun s'' hm'' hS'' => ?_⟩
    · rw [hsb.2 b (fun h : b = S => hSf (by rw [← h]; exact hb))]; exact e
    · refine hR s'' (Moved.trans W.gtrans ((hm.mono up).then_heap (Nat.le_succ _) fun b o hb e => ?_) hm'') hS''
      rw [hsb.2 b (fun h : b = S => hb (by rw [h]; exact List.mem_cons_self))]; exact e
def obj0 (w : World) : Obj := { cls := .type "set", dict := none, data := .set #[] 0 (.fresh 0 0 (!w.params.followText "set-order")) }
theorem sat0 {h : Heap} {a : Addr} (e : h.get? a = some (obj0 w)) : SAt w h a [] := ⟨(#[], 0, .fresh 0 0 (!w.params.followText "set-order")), e, .new (by rfl) rfl (by
  show _ ∨ (!w.params.followText "set-order") = true
  cases w.params.followText "set-order"
  · exact .inr rfl
  · exact .inl rfl)⟩
set_option maxHeartbeats 6400000 in
/-- set(xs), xs a list of texts -/
theorem set_list {l : Addr} {items : Array Value} {xs : List Str} {Q : Value → Shared → Prop} (hh : A.handled = none) (hl : s.heap.IsList l items) (hi : PyProof.Rows.StrsAre items.toList xs) (hb : xs.length < scanBound)
    (h : ∀ (h' : Heap) (tk : Nat), SAt w h' s.heap.objs.size (ddS [] xs) → (∀ b o, s.heap.get? b = some o → h'.get? b = some o) → Q (.ref s.heap.objs.size) { s with heap := h', toks := tk }) :
    wpAny (model P w) A (call (.type "set") [.ref l]) Q E s := by
  obtain ⟨c, tl, hmro⟩ := F.called_set.mro
  have hmade := F.called_set.made
  have hsub := F.called_set.sub
  refine wpAny_call (codeAny_of_tree ?_)
  show wpAny _ _ (callAny (.type "set") _) _ _ _
  refine wpAny_pure ⟨Code.quiet_builtin _ (by decide +kernel), codeAny_builtin F.entry_type_call ?_⟩
  rw [Around.under_plain (weight_type_call_type "set" [.ref l] []) rfl]
  have h1 := F.called_set.notType
  have h2 := F.called_set.canCreate
  have hct := F.typeCall_set_1 (.ref l)
  repeat (any_goals (first | assumption | wp_step))
  refine codeAny_mono (code_set_led1 (.ref l) (E := E) (Q₁ := fun obj s₁ => obj = .ref s.heap.objs.size ∧ s₁ = { s with heap := s.heap.push (obj0 w) }) ⟨rfl, rfl⟩) fun r s₁ hr => ?_
  rcases r with e | fl
  · exact hr
  cases fl with
  | next => exact hr.elim
  | brk => exact hr.elim
  | cont => exact hr.elim
  | ret obj =>
  obtain ⟨rfl, rfl⟩ := hr
  have hS : (s.heap.push (obj0 w)).get? s.heap.objs.size = some (obj0 w) := Heap.get?_push_size _ rfl
  have hT : Shared.TypeIs { s with heap := s.heap.push (obj0 w) } (.ref s.heap.objs.size) "set" := ⟨_, hS, rfl⟩
  have hli := F.called_set.init.lookup
  have hbi := F.called_set.init.bind (.ref s.heap.objs.size)
  repeat (any_goals (first | assumption | wp_step))
  refine codeAny_mono (codeAny_call_builtin (R := wants (fun r s₂ => r = .none ∧ ∃ h' tk, s₂ = { s with heap := h', toks := tk } ∧ SAt w h' s.heap.objs.size (ddS [] xs) ∧ (∀ b o, s.heap.get? b = some o → h'.get? b = some o)) E)
    F.called_set.init.plain F.entry_set_init (check_set_init_1 hT ?_)) fun r₂ s₂ hr₂ => ?_
  · obtain ⟨⟨ocls, odict, odata, oslots⟩, hol, hcl, nl, hdl⟩ := hl
    simp only at hcl hdl
    subst hcl; subst hdl
    have hol' : (s.heap.push (obj0 w)).get? l = some { cls := .type "list", dict := odict, data := .seq items nl, slots := oslots } := Heap.get?_push_of_some _ hol
    have hsls := F.sub_list_set
    have hslf := F.sub_list_frozenset
    have hne : (Value.type "list" == Value.type "dict") = false := by decide
    have hl1 : (s.heap.push (obj0 w)).IsList l items := ⟨_, hol', rfl, nl, rfl⟩
    unfold Builtin.«set.__init__» noKeywords Builtin.Frozenset.updateFrom
    generalize hPI : pyIter = PI
    wp_walk
    subst hPI
    refine wpAny_pyIter_list hl1 ?_
    refine wpAny_bind (wpAny_runValue ?_)
    have hlS : l < s.heap.objs.size := Heap.lt_size hol
    have hz : (s.heap.push (obj0 w)).objs.size = s.heap.objs.size + 1 := Heap.size_push ..
    have hneI : l ≠ (s.heap.push (obj0 w)).objs.size := by
      rw [hz]
      exact Nat.ne_of_lt (Nat.lt_succ_of_lt hlS)
    have hSf : s.heap.objs.size ∉ [(s.heap.push (obj0 w)).objs.size, l] := by
      rw [hz]
      simp only [List.mem_cons, List.not_mem_nil, or_false, not_or]
      exact ⟨Nat.ne_of_lt (Nat.lt_succ_self _), Nat.ne_of_gt hlS⟩
    have hsz : items.size = xs.length := by rw [← StrsAre.len_eq hi, Array.length_toList]
    have WL := ((Walks.list (prog := P) (w := w) (A := A.in1.in1.in1) (by simp [hh]) _ l hneI items).mono_item (P' := fun i v => ∃ t, v = Value.str (xs.getD i Str.empty) t) fun i v _ hv => SS.strs_at hi i v (by rw [Array.getElem?_toList]; exact hv)).toS
    rw [hsz] at WL
    refine set_loop WL s.heap.objs.size hSf xs 0 [] _ rfl (Nat.zero_le _) (by simpa using hb) ⟨⟨_, Heap.get?_push_size _ rfl, rfl, rfl⟩, hl1.push _⟩ (sat0 (Heap.get?_push_of_some _ hS)) fun s' hm hS' => ?_
    obtain ⟨h', g', d', tk', os'⟩ := s'
    have eg : g' = s.gens := hm.gens
    have ed : d' = s.drawn := hm.drawn
    have eo : os' = s.os := hm.os
    subst eg; subst ed; subst eo
    show wpAny _ _ _ _ _ _
    refine wpAny_pure ?_
    show wpAny _ _ (ret Value.none) _ _ _
    refine wpAny_pure ⟨rfl, h', tk', rfl, hS', fun b o e => ?_⟩
    have hlt := Heap.lt_size e
    refine hm.heap b o ?_ (Heap.get?_push_of_some _ (Heap.get?_push_of_some _ e))
    rw [hz]
    simp only [List.mem_cons, List.not_mem_nil, or_false, not_or]
    exact ⟨Nat.ne_of_lt hlt, Nat.ne_of_lt (Nat.lt_succ_of_lt hlt)⟩
  · rcases r₂ with e | fl₂
    · exact hr₂
    cases fl₂ with
    | next => exact hr₂.elim
    | brk => exact hr₂.elim
    | cont => exact hr₂.elim
    | ret r =>
      obtain ⟨rfl, h', tk, rfl, hS', hk'⟩ := hr₂
      repeat (any_goals (first | assumption | wp_step))
      exact h _ _ hS' hk'
end
end DL

set_option Elab.async false
set_option linter.all false
set_option maxRecDepth 100000
set_option maxHeartbeats 2000000
/-! DLMore: sorted(set(..)), list(..), tuple(..), isinstance, unpacking, dict comprehensions, try. -/
namespace DL
open PySem L2
open PyProof.Rows hiding St

/-! ### sorted(set(list of texts)) -/
def SetSO (w : World) (a : Addr) (l : List Str) : HO := .ext fun h => SAt w h a l
theorem setSO_new {P : Program} {w : World} {H : Hp} {h : Heap} {a : Addr} {l : List Str} (R : SAt w h a l) : ObjOk P w H h a (SetSO w a l) := by
  have ⟨D, ho, _⟩ := R
  exact ⟨R, ⟨_, ho⟩, fun h1 h2 ⟨D, p, q⟩ k => ⟨D, k _ p, q⟩⟩
def leS : Str → Str → Bool := PySem.W.dataLe false PyData.str
def sortS (l : List Str) : List Str := l.mergeSort leS
theorem leS_eq (a b : Str) : leS a b = decide (a.cps.toList ≤ b.cps.toList) := congrFun (congrFun (PySem.W.dataLe_str (fun x : Str => x)) a) b
theorem str_of_list {a b : Str} (h : a.cps.toList = b.cps.toList) : a = b := by
  cases a; cases b
  exact congrArg Str.mk (Array.toList_inj.mp h)
theorem leS_trans (a b c : Str) (h1 : leS a b = true) (h2 : leS b c = true) : leS a c = true := by
  rw [leS_eq, decide_eq_true_eq] at *
  exact List.le_trans h1 h2
theorem leS_total (a b : Str) : (leS a b || leS b a) = true := by
  rw [leS_eq, leS_eq, Bool.or_eq_true, decide_eq_true_eq, decide_eq_true_eq]
  exact List.le_total _ _
theorem leS_anti (a b : Str) (h1 : leS a b = true) (h2 : leS b a = true) : a = b := by
  rw [leS_eq, decide_eq_true_eq] at *
  exact str_of_list (List.le_antisymm h1 h2)
theorem sortS_perm {l l' : List Str} (p : l.Perm l') : sortS l = sortS l' := by
  refine List.Perm.eq_of_pairwise (le := fun a b => leS a b = true) (fun a b _ _ => leS_anti a b) ?_ ?_ ?_
  · exact List.pairwise_mergeSort leS_trans leS_total l
  · exact List.pairwise_mergeSort leS_trans leS_total l'
  · exact (List.mergeSort_perm l _).trans (p.trans (List.mergeSort_perm l' _).symm)
section
variable {X : Cx}
def rSetS (w : World) (K : PySem.W.Frag) : List V → Hp → VK → Prop := fun xs H Q => ∃ (l : Addr) (ks : List Str), xs = [.ref l] ∧ SqL K H l (ks.map V.str) ∧ ks.length < scanBound ∧ ∀ p, H p = none → Q (.ref p) (upd H p (SetSO w p (ddS [] ks)))
theorem cr_setS (hc : X.calm = true) : CallR X (.type "set") (rSetS X.w X.K) := by
  intro pins s σ H xs us Q I r h
  obtain ⟨l, ks, rfl, hl, hb, q⟩ := h
  rw [Vals.ref1 r]
  obtain ⟨its, rv, ⟨o, n, ho, hcl, _, hd⟩, hz⟩ := I.list hl
  refine set_list (items := its.toArray) (xs := ks) (I.ok.hd hc) ⟨o, ho, hcl, n, hd⟩ (by simpa using rv.strs) hb fun h' tk sa k => ?_
  exact ⟨.ref s.heap.objs.size, upd H s.heap.objs.size (SetSO X.w s.heap.objs.size (ddS [] ks)), I.laid (t' := tk) k (Nat.le_refl _) (setSO_new sa), rfl, q _ (I.hok.fresh (Nat.le_refl _))⟩
def rSortSetS (w : World) : List V → Hp → VK → Prop := fun xs H Q => ∃ (a : Addr) (l : List Str), xs = [.ref a] ∧ H a = some (SetSO w a l) ∧ l.length < scanBound ∧ ∀ p, H p = none → Q (.ref p) (upd H p (.lst ((sortS l).map V.str)))
theorem alike_strs (l : List Str) : PySem.W.AllAlike (l.map PyData.str) := fun d hd d' hd' => by
  obtain ⟨a, _, rfl⟩ := List.mem_map.mp hd
  obtain ⟨b, _, rfl⟩ := List.mem_map.mp hd'
  rfl
theorem sortable_strs (l : List Str) : PySem.W.Sortable (l.map PyData.str) := .inr fun d hd => by
  obtain ⟨a, _, rfl⟩ := List.mem_map.mp hd
  exact ⟨(fun z => nomatch z), fun xs z => nomatch z⟩
theorem scan_size : scanBound ≤ sizeLine := by decide
theorem cr_sortSetS (hc : X.calm = true) (hu : X.A.units + 64 < cLine) : CallR X (.builtin "sorted") (rSortSetS X.w) := by
  intro pins s σ H xs us Q I r h
  obtain ⟨a, l, rfl, ha, hb, q⟩ := h
  rw [Vals.ref1 r]
  obtain ⟨D, ho, ok⟩ := (I.hok a _ ha).1
  refine sorted_col (H := H) (β := Str) hu fun R E k => ?_
  have hsz : D.1.size < scanBound := by rw [ok.sz]; exact hb
  refine collect_set (P := X.prog) (es := D.1) (ep := D.2.1) (t := D.2.2) (I.ok.hd hc) ⟨_, ho, rfl, rfl⟩ ok.fit hsz ok.ris ok.led fun s' out k1 hs g o pm => ?_
  have J : Inv X pins σ H { s with heap := s'.heap, gens := s'.gens, drawn := s'.drawn, toks := s'.toks } := I.call (ch := []) (Un.kept k1) (I.hok.kept k1) (by rw [g]; exact I.bare) (fun _ z => nomatch z)
  have e : s' = { s with heap := s'.heap, gens := s'.gens, drawn := s'.drawn, toks := s'.toks } := by
    cases s'
    cases s
    cases o
    rfl
  have hk : ∀ v ∈ out, ∃ t, v = Value.str (keyS (0, v)) t := fun v hv => by
    obtain ⟨en, he, rfl⟩ := List.mem_map.mp (pm.mem_iff.mp hv)
    obtain ⟨k, tk, rfl⟩ := ok.good en he
    exact ⟨tk, rfl⟩
  have pl : (out.map fun v => keyS (0, v)).Perm l := by
    have q := pm.map fun v => keyS (0, v)
    rw [List.map_map] at q
    exact q.trans ok.perm
  have rv : Vals ((out.map fun v => keyS (0, v)).map V.str) out := by
    clear q pm pl k J e
    induction out with
    | nil => exact .nil
    | cons v vs ih =>
      obtain ⟨t, ev⟩ := hk v (List.mem_cons_self ..)
      exact .cons ⟨t, ev⟩ (ih fun u hu => hk u (List.mem_cons_of_mem _ hu))
  have hlen : (out.map fun v => keyS (0, v)).length < scanBound := by rw [pl.length_eq]; exact hb
  rw [e]
  refine k _ out (out.map fun v => keyS (0, v)) V.str PyData.str J rv ⟨fun z _ => .str z, alike_strs _, sortable_strs _, ?_, fun z _ => Nat.zero_le _⟩ fun p hp => ?_
  · have := scan_size
    omega
  · have q2 := q p hp
    rw [← sortS_perm pl] at q2
    exact q2
/-- sorted(set(e)), e a list of texts -/
def dSortSet (te : DTE) : DTE := fun ρ M Q => te ρ M fun x M1 => ∃ ks : List Str, viewL M1 x = some (ks.map D.str) ∧ ks.length < scanBound ∧ Q (.lst ((sortS (ddS [] ks)).map D.str)) M1
theorem de_sortSet {e : Expr} {te : DTE} {p1 p2 p3 p4 : Pos} (hc : X.calm = true) (hu : X.A.units + 64 < cLine) (hg : Gl X "sorted") (hm : X.mg "sorted" = none) (hg2 : Gl X "set") (hm2 : X.mg "set" = none) (he : DE X e te)
    (hs : starEach [e] X.env = [(false, eval e X.env)] := by rfl) : DE X (.Call (.Name "sorted" p1) [.Call (.Name "set" p2) [e] [] p3] [] p4) (dSortSet te) := by
  refine peM (pe_callB (id := "sorted") (cr_sortSetS hc hu) hg hm rfl (pa_cons (pe_callTy (T := "set") (cr_setS hc) hg2 hm2 rfl (pa_cons he pa_nil hs) (he := hs)) pa_nil)) fun σ H Q ⟨w, ρ, M, Q', R, h, kk⟩ => ?_
  refine ⟨w, ρ, M, _, R, h, fun x M1 h1 w1 v1 H1 l1 R1 r1 => ?_⟩
  obtain ⟨ks, ex, hb, q⟩ := h1
  obtain ⟨a, vs, rfl, g, rl⟩ := viewL_at R1.m r1 ex
  rw [rel_strs rl] at g
  refine ⟨a, ks, rfl, g, hb, fun p hp => ?_⟩
  have hlen : (ddS [] ks).length < scanBound := Nat.lt_of_le_of_lt (ddS_len ks []) (by simpa using hb)
  refine ⟨p, ddS [] ks, rfl, by simp [upd], hlen, fun p2 hp2 => ?_⟩
  have R2 := R1.froz (o := SetSO X.w p (ddS [] ks)) hp
  refine kk _ M1 q _ _ _ (l1.trans ((Wd.froz_le (R1.m.nF hp)).trans (Wd.froz_le (R2.m.nF hp2)))) (R2.froz hp2) (frozL R2.m (strs_rel _) hp2)

/-! ### list(..), tuple(..) -/
/-- what list() and tuple() take: a text, a list, a tuple -/
def itemsD (M : Store) (x : D) : Option (List D) := match x with
  | .str z => if z.length ≤ sizeLine then some ((signs z).map D.str) else none
  | x => viewS M x
def listR : DRC := fun xs M Q => match xs with
  | [x] => match itemsD M x with | some ds => Q (.lst ds) M | none => False
  | _ => False
/-- the list may be written to -/
def listRM : DRC := fun xs M Q => match xs with
  | [x] => match itemsD M x with | some ds => Q (.ref M.length) (M ++ [.lst ds]) | none => False
  | _ => False
abbrev rListV (K : PySem.W.Frag) : List V → Hp → VK → Prop := fun xs H Q => (∃ x, xs = [.str x] ∧ x.length ≤ sizeLine ∧ ∀ p, H p = none → Q (.ref p) (upd H p (.lst ((signs x).map V.str)))) ∨
  ∃ p ys, xs = [.ref p] ∧ (SqL K H p ys ∨ SqT K H p ys) ∧ ∀ l, H l = none → Q (.ref l) (upd H l (.lst ys))
theorem listV_of {w : Wd} {M : Store} {H : Hp} {x : D} {v : V} {ds : List D} {Q : VK} (R : RM (bgX X) w M H) (r : Rel (bgX X) w x v) (e : itemsD M x = some ds) (q : ∀ vs p, RelL (bgX X) w ds vs → H p = none → Q (.ref p) (upd H p (.lst vs))) : rListV X.K [v] H Q := by
  unfold itemsD at e
  split at e
  · rename_i z
    cases r
    split at e
    · rename_i hz
      cases e
      exact .inl ⟨z, rfl, hz, fun p hp => q _ p (strs_rel _) hp⟩
    · cases e
  · obtain ⟨a, vs, rfl, g, rl⟩ := viewS_at R r e
    exact .inr ⟨a, vs, rfl, g, fun p hp => q vs p rl hp⟩
theorem cx_list (hc : X.calm = true) : CallX X (.type "list") listR := .of (.or (call_list_text hc) call_list_of) fun w M H xs vs Q' Q R r h k => by
  unfold listR at h
  split at h
  · rename_i x
    obtain ⟨v, rfl, rx⟩ := r.one
    split at h
    · rename_i ds e
      exact listV_of R rx e fun vs p rl hp => k _ M h _ _ _ (Wd.froz_le (R.nF hp)) (R.froz hp) (frozL R rl hp)
    · exact h.elim
  · exact h.elim
theorem cx_listM (hc : X.calm = true) : CallX X (.type "list") listRM := .of (.or (call_list_text hc) call_list_of) fun w M H xs vs Q' Q R r h k => by
  unfold listRM at h
  split at h
  · rename_i x
    obtain ⟨v, rfl, rx⟩ := r.one
    split at h
    · rename_i ds e
      exact listV_of R rx e fun vs p rl hp => k _ _ h _ _ _ Wd.put_le (R.put hp (.lst (rl.mono Wd.put_le))) (putR R)
    · exact h.elim
  · exact h.elim
def tupleR : DRC := fun xs M Q => match xs with
  | [x] => match viewS M x with | some ds => Q (.tup ds) M | none => False
  | _ => False
theorem cx_tuple : CallX X (.type "tuple") tupleR := .of call_tuple_of fun w M H xs vs Q' Q R r h k => by
  unfold tupleR at h
  split at h
  · rename_i x
    obtain ⟨v, rfl, rx⟩ := r.one
    split at h
    · rename_i ds e
      have tupq : ∀ a us, v = .ref a → SqT X.K H a us → x = .tup ds → ∃ p ys, [v] = [V.ref p] ∧ ((SqL X.K H p ys ∧ ∀ l, H l = none → Q (.ref l) (upd H l (.tup ys))) ∨ (SqT X.K H p ys ∧ Q (.ref p) H)) := fun a us ev g ex => by
        subst ev ex
        exact ⟨a, us, rfl, .inr ⟨g, k _ M h w _ H (Wd.Le.refl w) R rx⟩⟩
      have lst : ∀ {ds'}, viewL M x = some ds' → ds' = ds → ∃ p ys, [v] = [V.ref p] ∧ ((SqL X.K H p ys ∧ ∀ l, H l = none → Q (.ref l) (upd H l (.tup ys))) ∨ (SqT X.K H p ys ∧ Q (.ref p) H)) := fun {ds'} e1 e2 => by
        subst e2
        obtain ⟨a, us, rfl, g, rl⟩ := viewL_at R rx e1
        exact ⟨a, us, rfl, .inl ⟨g, fun p hp => k _ M h _ _ _ (Wd.froz_le (R.nF hp)) (R.froz hp) (frozT R rl hp)⟩⟩
      cases x with
      | tup es =>
        cases e
        cases rx with
        | tup g l q => exact tupq _ _ rfl (sqT_mono (K := X.K) R.sub g) rfl
      | lst es =>
        cases e
        exact lst rfl rfl
      | ref n => exact lst (by unfold viewS at e; unfold viewL; exact e) rfl
      | _ => cases e
    · exact h.elim
  · exact h.elim

/-! ### unpacking a list or a tuple -/
def dgSeq (n : Nat) (t : DTGs) : DTG := fun d ρ M Q => match viewS M d with | some ds => ds.length = n ∧ t ds ρ M Q | none => False
theorem pgOr {e : Expr} {t t' : TG} (h : PG X e t) (h' : PG X e t') : PG X e (fun v σ H Q => t v σ H Q ∨ t' v σ H Q) := ⟨fun pins s σ H v u Q I r q => q.elim (h.run pins s σ H v u Q I r) (h'.run pins s σ H v u Q I r)⟩
theorem dg_seq {es : List Expr} {k n : Nat} {tg : DTGs} {pos : Pos} (hc : X.calm = true) (h : DGs X es tg) (hn : (assignEach es X.env).length = n := by rfl) (hst : (assignEach es X.env).findIdx? (·.1) = none := by rfl) : DG X (.Tuple es k pos) (dgSeq n tg) := by
  refine pgM (pgOr (pg_tup hc h hn hst) (pg_unl hc h hn hst)) fun v σ H Q ⟨w, ρ, M, d, Q', R, r, h, kk⟩ => ?_
  unfold dgSeq at h
  split at h
  · rename_i ds e
    obtain ⟨a, vs, rfl, g, rl⟩ := viewS_at R.m r e
    rcases g with g | g
    · exact .inr ⟨a, vs, rfl, g, rl.1.symm.trans h.1, w, ρ, M, ds, Q', R, rl, h.2, kk⟩
    · exact .inl ⟨a, vs, rfl, g, rl.1.symm.trans h.1, w, ρ, M, ds, Q', R, rl, h.2, kk⟩
  · exact h.elim
end
end DL

set_option Elab.async false
set_option linter.all false
set_option maxRecDepth 100000
set_option maxHeartbeats 2000000
/-! DLTry: isinstance, dict comprehensions, try whose body raises nothing. -/
namespace DL
open PySem L2
open PyProof.Rows hiding St

/-! ### isinstance -/
def plainTy : List String := ["NoneType", "bool", "int", "str", "list", "tuple", "dict"]
def isTy (a b : String) : Bool := decide (a = b) || (decide (a = "bool") && decide (b = "int"))
theorem isTy_kit {a b : String} (ha : a ∈ plainTy) (hb : b ∈ plainTy) : kitB a b = some (isTy a b) := by
  have h : ∀ a ∈ plainTy, ∀ b ∈ plainTy, kitB a b = some (isTy a b) := by decide +kernel
  exact h a ha b hb
/-- the type of what isinstance may be asked of -/
def tyI (M : Store) : D → Option String
  | .non => some "NoneType"
  | .bl _ => some "bool"
  | .int _ => some "int"
  | .str _ => some "str"
  | .tup _ => some "tuple"
  | .lst _ => some "list"
  | .dk _ => some "dict"
  | .ref n => match M[n]? with
    | some (.lst _) => some "list"
    | some (.dk _) => some "dict"
    | _ => none
  | _ => none
theorem tyI_plain {M : Store} {x : D} {t : String} (h : tyI M x = some t) : t ∈ plainTy := by
  unfold tyI at h
  split at h
  all_goals first
    | (cases h; decide)
    | skip
  split at h
  all_goals first
    | (cases h; decide)
    | cases h
theorem tyx_seqT {K : PySem.W.Frag} {H : Hp} {a : Addr} {xs : List V} (g : SqT K H a xs) : TyX K H (.ref a) (.type "tuple") := by
  rcases g with (e | ⟨o, e⟩) | ⟨o, its, n, hk, hc, _⟩
  · exact .base (.tup e)
  · exact .fTuple e
  · exact .kTuple hk hc
theorem tyx_seqL {K : PySem.W.Frag} {H : Hp} {a : Addr} {xs : List V} (g : SqL K H a xs) : TyX K H (.ref a) (.type "list") := by
  rcases g with (e | ⟨o, e⟩) | ⟨o, its, n, hk, hc, _⟩
  · exact .base (.lst e)
  · exact .base (.frz e)
  · exact .kList hk hc
theorem tyI_x {b : Bg} {w : Wd} {M : Store} {H : Hp} {x : D} {v : V} {t : String} (R : RM b w M H) (r : Rel b w x v) (h : tyI M x = some t) : TyX b.K H v (.type t) := by
  cases r with
  | non => cases h; exact .base .non
  | bl c => cases h; exact .base (.bl _)
  | int i => cases h; exact .base (.int _)
  | str z => cases h; exact .base (.str _)
  | tup g l q => cases h; exact tyx_seqT (sqT_mono R.sub g)
  | lst g l q => cases h; exact tyx_seqL (sqL_mono R.sub g)
  | dk e k q =>
    cases h
    rcases rd_mono R.sub e with e | ⟨o, e⟩
    · exact .base (.dK e)
    · exact .fDict e
  | dn e k q1 q2 q3 => cases h
  | ty n => cases h
  | ref ea =>
    simp only [tyI] at h
    split at h
    · rename_i ds en
      cases h
      obtain ⟨_, u, eu, c⟩ := R.cell _ _ _ ea en
      cases c with
      | lst rr => exact .base (.lst eu)
    · rename_i ds en
      cases h
      obtain ⟨_, u, eu, c⟩ := R.cell _ _ _ ea en
      cases c with
      | dk rr => exact .base (.dK eu)
    · cases h
def isiR : DRC := fun xs M Q => match xs with
  | [x, .ty c] => (c ∈ plainTy) ∧ match tyI M x with | some t => Q (.bl (isTy t c)) M | none => False
  | _ => False
section
variable {X : Cx}
theorem cx_isi : CallX X (.builtin "isinstance") isiR := .of call_isi fun w M H xs vs Q' Q R r h k => by
  unfold isiR at h
  split at h
  · rename_i x c
    obtain ⟨v, u, rfl, r1, r2⟩ := r.two
    cases r2
    obtain ⟨hc, h⟩ := h
    split at h
    · rename_i t et
      exact ⟨v, .ty c, .type t, .type c, isTy t c, rfl, .ty c, tyI_x R r1 et, kit_ty (isTy_kit (tyI_plain et) hc), k _ M h w _ H (Wd.Le.refl w) R (.bl _)⟩
    · exact h.elim
  · exact h.elim
theorem de_ty {x : Str} {t : String} {pos : Pos} (hg : Gl X x) (hm : X.mg x = none) (hv : bootBuiltins x = some (.type t)) (hn : x ≠ "__name__" := by decide) (hd : (x == ("__debug__" : Str)) = false := by decide) : DE X (.Name x pos) (dC (.ty t)) :=
  de_C (pe_bltn (v := .ty t) hg hm hv rfl hn hd) fun _ => .ty t

/-! ### try -/
theorem ds_try {x : Str} {c : Value} {body suite : List Stmt} {b₀ : Stmt} {np pos pos' : Pos} {t : DTS} (hs : X.stack = X.env :: X.outer) (hf : X.env.frame = some X.env.locals) (hc : Names X x c)
    (hb : ∀ (pn : List (Addr × Obj)) (xe : Value → Shared → Prop), PassesOwn (model X.prog X.w) X.A X.env xe → DSs (X.tr pn xe) body t) :
    DS X (.Try body [.ExceptHandler (some (.Name x np)) none (b₀ :: suite) pos'] [] [] pos) t :=
  psM (ps_try_only (tb := fun _ => upS (bgX X) t) (ts := fun _ _ _ => tNever) (Wout := fun _ _ _ _ => False) hs hf hc takes0 (fun W pn xe _ hp => hb pn xe hp) (fun a oe cls d pn _ _ => pss_never)) fun D σ H h => h

/-! ### dict comprehensions, keys ints or texts: a new cell -/
def dcGo (sh : Shape) (vs : List Nat) (keep : Store → Prop) (tt : DTT) (tk tv : DTE) (ρ : Env') : List D → Store → List (Key × D) → (List (Key × D) → Store → Prop) → Prop
  | [], M, acc, Q => keep M ∧ Q acc M
  | x :: xs, M, acc, Q => keep M ∧ match sh.bind x (dwipe ρ vs) with
    | some ρ2 => tt ρ2 M fun c M3 => if c = true then tk ρ2 M3 fun y M4 => tv ρ2 M4 fun z M5 => match dkey y with
        | some k => acc.length < sizeLine ∧ dcGo sh vs keep tt tk tv ρ xs M5 (aPut acc k z) Q
        | none => False
      else dcGo sh vs keep tt tk tv ρ xs M3 acc Q
    | none => False
theorem dcGo_keep {sh : Shape} {vs : List Nat} {keep : Store → Prop} {tt : DTT} {tk tv : DTE} {ρ : Env'} {xs : List D} {M : Store} {acc : List (Key × D)} {Q : List (Key × D) → Store → Prop} (h : dcGo sh vs keep tt tk tv ρ xs M acc Q) : keep M := by
  cases xs with
  | nil => exact h.1
  | cons x xs => exact h.1
def dDc (src : DTI) (sh : Shape) (tt : DTT) (tk tv : DTE) (vs : List Nat) : DTE := fun ρ M Q => src ρ M fun items keep M1 => dcGo sh vs keep tt tk tv ρ items M1 [] fun acc M2 => Q (.ref M2.length) (M2 ++ [.dk acc])
/-- the entries of two dicts go together -/
def RelK (b : Bg) (w : Wd) (ds : List (Key × D)) (vs : List (Key × V)) : Prop := ds.map (·.1) = vs.map (·.1) ∧ ∀ (i : Nat) (d : Key × D) (v : Key × V), ds[i]? = some d → vs[i]? = some v → Rel b w d.2 v.2
theorem RelK.mono0 {b : Bg} {w w' : Wd} (h : w.Le0 w') {ds : List (Key × D)} {vs : List (Key × V)} (r : RelK b w ds vs) : RelK b w' ds vs := ⟨r.1, fun i d v e1 e2 => (r.2 i d v e1 e2).mono0 h⟩
theorem RelK.put {b : Bg} {w : Wd} {ds : List (Key × D)} {vs : List (Key × V)} (r : RelK b w ds vs) (k : Key) {d : D} {v : V} (q : Rel b w d v) : RelK b w (aPut ds k d) (putK vs k v) := by
  rw [putK_eq]
  exact aPut_rel (R := Rel b w) r.1 r.2 k q
variable {kx vx tg iter : Expr} {ifs : List Expr} {scope : Scope} {own : List (Str × Nat)} {pos : Pos} {src : DTI} {sh : Shape} {tt : DTT} {tk tv : DTE}
theorem up_dc (hv : ∀ i ∈ sh.slots, i ∈ own.map (·.2)) {σ : St} {H : Hp} {Q : VK} (h : upE (bgX X) (dDc src sh tt tk tv (own.map (·.2))) σ H Q) : tDc (upI (bgX X) src) (sh.g X.K) (upT (bgX X) tt) (upE (bgX X) tk) (upE (bgX X) tv) (own.map (·.2)) σ H Q := by
  obtain ⟨w, ρ, M, Q', R, h, k⟩ := h
  refine ⟨w, ρ, M, _, R, h, fun items keep M1 h1 w1 J H1 l1 R1 jk D hD => ?_⟩
  have hfr := R1.m.nfr hD
  let W := fun (i : Nat) (H : Hp) => ∃ (w2 : Wd) (M2 : Store) (acc : List (Key × DL.D)) (accV : List (Key × V)), w1.Le0 w2 ∧ w2.fr = (D, .dK accV) :: w1.fr ∧ RM (bgX X) w2 M2 H ∧ RelK (bgX X) w2 acc accV ∧
    dcGo sh (own.map (·.2)) keep tt tk tv ρ (items.drop i) M2 acc (fun acc M2 => Q' (.ref M2.length) (M2 ++ [.dk acc]))
  refine ⟨fun i m H => m = items.length - i ∧ i ≤ items.length ∧ W i H, ⟨items.length, by simp, Nat.zero_le _, w1.hold D (.dK []), M1, [], [], ⟨fun _ _ h => h, List.prefix_rfl⟩, rfl, R1.m.hold hD, ⟨rfl, fun i d v e => by simp at e⟩, by simpa using h1⟩, ?_⟩
  rintro i m H2 ⟨rfl, hi, w2, M2, acc, accV, l2, ef, R2, ra, q2⟩
  obtain ⟨turns, stop⟩ := jk w2 M2 H2 l2 R2 (dcGo_keep q2)
  by_cases hlt : i < items.length
  · have ed : items.drop i = items[i] :: items.drop (i + 1) := List.drop_eq_getElem_cons hlt
    rw [ed] at q2
    obtain ⟨kp, q2⟩ := q2
    obtain ⟨go, yl⟩ := turns i items[i] (List.getElem?_eq_getElem hlt)
    refine .inr ⟨go, W (i + 1), fun H' q => ⟨items.length - (i + 1), by omega, rfl, hlt, q⟩, fun x H3 y => ?_⟩
    obtain ⟨w3, l3, R3, r3⟩ := yl x H3 y
    split at q2
    · rename_i ρ2 hb
      have e3 : EnvR (bgX X) w3 (dwipe ρ (own.map (·.2))) (wipe σ (own.map (·.2))) := (R1.e.mono0 (l2.trans l3.le0)).wipe _
      refine shape_ok (b := bgX X) hv R3 r3 e3 hb fun σ3 e4 hw => ?_
      refine ⟨hw.trans wipe_wipe |>.trans rfl, ?_⟩
      refine ⟨w3, ρ2, M2, _, ⟨R3, e4⟩, q2, fun c M4 h4 w4 H4 l4 R4 => ?_⟩
      cases c with
      | false =>
        rw [if_neg Bool.false_ne_true] at h4 ⊢
        exact ⟨w4, M4, acc, accV, (l2.trans l3.le0).trans l4.le0, (l4.fr.trans l3.fr).trans ef, R4.m, ra.mono0 (l3.trans l4).le0, h4⟩
      | true =>
        rw [if_pos rfl] at h4 ⊢
        refine ⟨w4, ρ2, M4, _, R4, h4, fun y5 M5 h5 w5 v5 H5 l5 R5 r5 => ?_⟩
        refine ⟨w5, ρ2, M5, _, R5, h5, fun z M6 h6 w6 v6 H6 l6 R6 r6 => ?_⟩
        have ef6 : w6.fr = (D, .dK accV) :: w1.fr := (((l6.fr.trans l5.fr).trans l4.fr).trans l3.fr).trans ef
        obtain ⟨eD, _, _⟩ := R6.m.fr (D, .dK accV) (by rw [ef6]; simp)
        have l26 := (((l3.trans l4).trans l5).trans l6).le0
        have ra6 := ra.mono0 l26
        split at h6
        · rename_i kk ek
          refine ⟨accV, kk, dkey_v ek r5, eD, ?_, ⟨w6.F, w6.as, (D, .dK (putK accV kk v6)) :: w1.fr⟩, M6, aPut acc kk z, putK accV kk v6, ?_, rfl, R6.m.rehold ef6 hfr, ?_, h6.2⟩
          · have e1 := congrArg List.length ra6.1
            rw [List.length_map, List.length_map] at e1
            rw [← e1]
            exact h6.1
          · have := l2.trans l26
            exact ⟨this.F, this.as⟩
          · have le : w6.Le0 ⟨w6.F, w6.as, (D, .dK (putK accV kk v6)) :: w1.fr⟩ := ⟨fun _ _ h => h, List.prefix_rfl⟩
            exact (ra6.put kk r6).mono0 le
        · exact h6.elim
    · exact q2.elim
  · have e : i = items.length := by omega
    subst e
    rw [List.drop_length] at q2
    refine .inl ⟨stop, ?_⟩
    have le : w2.Le0 ⟨w2.F, w2.as ++ [D], w1.fr⟩ := ⟨fun _ _ h => h, List.prefix_append _ _⟩
    have rr := ra.mono0 le
    have l3 := l2.trans le
    refine k _ _ q2.2 ⟨w2.F, w2.as ++ [D], w1.fr⟩ _ H2 (l1.trans ⟨l3.F, l3.as, rfl⟩) ⟨R2.unholdM ef hfr (.dk rr.1 rr.2), R1.e.mono0 l3⟩ (.ref ?_)
    show (w2.as ++ [D])[M2.length]? = some D
    rw [← R2.len, List.getElem?_append_right (Nat.le_refl _)]
    simp
theorem de_dc (hc : X.calm = true) (hN : X.N.Nodup) (hi : DI X tg iter src) (ok : BlkOk X.N X.env.scope scope own) (hv : ∀ i ∈ sh.slots, i ∈ own.map (·.2))
    (hg : ∀ (s : Shared) (H : Hp) (C : Addr) (cl : List (Str × Addr)) (fp : List Addr), PG (X.blk s H scope (compEnvC scope cl C X.env) fp) tg (sh.g X.K)) (ht : ∀ (s : Shared) (H : Hp) (C : Addr) (cl : List (Str × Addr)) (fp : List Addr), DTs (X.blk s H scope (compEnvC scope cl C X.env) fp) ifs tt)
    (hk : ∀ (s : Shared) (H : Hp) (C : Addr) (cl : List (Str × Addr)) (fp : List Addr), DE (X.blk s H scope (compEnvC scope cl C X.env) fp) kx tk)
    (he : ∀ (s : Shared) (H : Hp) (C : Addr) (cl : List (Str × Addr)) (fp : List Addr), DE (X.blk s H scope (compEnvC scope cl C X.env) fp) vx tv) (hs : ∀ x, foldedSetIterable iter X.env x = pure x := by intro _; rfl) :
    DE X (.DictComp kx vx [⟨tg, iter, ifs, 0⟩] scope pos) (dDc src sh tt tk tv (own.map (·.2))) :=
  peM (pe_dc hc hN hi ok hg ht hk he hs) fun σ H Q h => up_dc hv h
end
end DL

set_option Elab.async false
set_option linter.all false
set_option maxRecDepth 100000
set_option maxHeartbeats 2000000
/-! DLAsg: name = [..], name = {..} on one line. -/
namespace DL
open PySem L2
open PyProof.Rows hiding St
section
variable {X : Cx} {i : Nat} {y : Str} {py : Pos} {elt kx vx tg iter : Expr} {ifs : List Expr} {scope : Scope} {own : List (Str × Nat)} {pos spos : Pos} {src : DTI} {sh : Shape} {tt : DTT} {te tk tv : DTE}
theorem sw_dict {l : Nat} {env : Env} {gs : List Comprehension} (hk : env.scope.kind = .function) (hy : env.scope.names.lookup y = some .local) (hl : (py.line == pos.line) = true)
    (ha : (scope.names.any fun (n, k) => n == y && (k == .local || k == .cell)) = false) : swapsWith (.DictComp kx vx gs scope pos) (some (.Name y py)) l env = pure true := by
  have ky : env.kindOf y = some .local := hy
  have hb : env.blockKind = .function := by
    unfold Env.blockKind
    rw [hk]
    rfl
  unfold swapsWith
  simp only [hb, ky, ha, Expr.pos, hl]
  rfl
theorem ps_setDc {wi : TI} {g : TG} {tt : TT} {tk tv : TE} (hc : X.calm = true) (hN : X.N.Nodup) (hy : X.N[i]? = some y) (hyl : X.env.scope.names.lookup y = some .local)
    (hsw : swapsWith (.DictComp kx vx [⟨tg, iter, ifs, 0⟩] scope pos) (some (.Name y py)) spos.line X.env = pure true) (hi : PI X tg iter wi) (ok : BlkOk X.N X.env.scope scope own)
    (hg : ∀ (s : Shared) (H : Hp) (C : Addr) (cl : List (Str × Addr)) (fp : List Addr), PG (X.blk s H scope (compEnvC scope cl C X.env) fp) tg g) (ht : ∀ (s : Shared) (H : Hp) (C : Addr) (cl : List (Str × Addr)) (fp : List Addr), PTs (X.blk s H scope (compEnvC scope cl C X.env) fp) ifs tt)
    (hk : ∀ (s : Shared) (H : Hp) (C : Addr) (cl : List (Str × Addr)) (fp : List Addr), PE (X.blk s H scope (compEnvC scope cl C X.env) fp) kx tk)
    (he : ∀ (s : Shared) (H : Hp) (C : Addr) (cl : List (Str × Addr)) (fp : List Addr), PE (X.blk s H scope (compEnvC scope cl C X.env) fp) vx tv) (hs : ∀ x, foldedSetIterable iter X.env x = pure x := by intro _; rfl) :
    PS X (.Assign [.Name y py] (.DictComp kx vx [⟨tg, iter, ifs, 0⟩] scope pos) spos) (tAsg (tDc wi g tt tk tv (own.map (·.2))) (gName i)) := by
  refine ⟨fun pins s σ H D I h => ?_⟩
  rw [exec_Assign_Name_used _ _ _ _ hsw]
  refine wpAny_bind (wpAny_standAt (wpAny_bind ?_))
  show wpAny _ X.A (do let _ ← comprehension (.DictComp kx vx [⟨tg, iter, ifs, 0⟩] scope pos) scope X.env (firstIterPos [⟨tg, iter, ifs, 0⟩] pos) newDict false (eval iter X.env) (some (assign (.Name y py) X.env))) _ _ s
  have h : tDc wi g tt tk tv (own.map (·.2)) σ H (fun x H1 => gName i x σ H1 D.nx) := h
  refine wpAny_bind (thn (dc_core (Qf := fun _ s' => SP X pins D .next s') hc hN I hi ok hg ht hk he hs h fun L C s' m H' I' q hn f => ?_) fun _ s' hq => wpAny_pure (wpAny_pure hq))
  show wpAny _ _ (assign (.Name y py) X.env (.ref L)) _ _ _
  refine wpAny_assign_Name (store_ok2 (v := V.ref L) I' hN hy (.inl hyl) rfl (fun s2 I2 ⟨a, sb, ha⟩ => ?_) (.inr hyl))
  obtain ⟨f0, f1, f2, f3, f4, f5⟩ := f
  have haC : C ≠ a := by
    rcases ha with z | z
    · rw [z]; exact f1
    · exact fun e => f4 y a z e.symm
  refine ⟨m, hn.sameBut sb haC, fun h3 sb3 => ?_⟩
  exact ⟨_, H', I2.turned (t' := s2.toks) (fun b o hb e => (sb3.2 b hb).trans e) f0 f1 f3 f4 f5, q⟩
theorem up_set {te : DTE} {σ : St} {H : Hp} {D : Ends} (h : upS (bgX X) (dAsg te (dgName i)) D σ H) : upE (bgX X) te σ H fun x H1 => gName i x σ H1 D.nx := by
  obtain ⟨w, ρ, M, D', R, h, E⟩ := h
  exact ⟨w, ρ, M, _, R, h, fun d M1 h1 w1 v1 H1 l1 R1 r1 => E.nx _ M1 h1 w1 _ H1 l1 ⟨R1.m, R1.e.set r1⟩⟩
theorem ds_setLc (hc : X.calm = true) (hN : X.N.Nodup) (hy : X.N[i]? = some y) (hyl : X.env.scope.names.lookup y = some .local)
    (hsw : swapsWith (.ListComp elt [⟨tg, iter, ifs, 0⟩] scope pos) (some (.Name y py)) spos.line X.env = pure true) (hi : DI X tg iter src) (ok : BlkOk X.N X.env.scope scope own) (hv : ∀ i ∈ sh.slots, i ∈ own.map (·.2))
    (hg : ∀ (s : Shared) (H : Hp) (C : Addr) (cl : List (Str × Addr)) (fp : List Addr), PG (X.blk s H scope (compEnvC scope cl C X.env) fp) tg (sh.g X.K)) (ht : ∀ (s : Shared) (H : Hp) (C : Addr) (cl : List (Str × Addr)) (fp : List Addr), DTs (X.blk s H scope (compEnvC scope cl C X.env) fp) ifs tt)
    (he : ∀ (s : Shared) (H : Hp) (C : Addr) (cl : List (Str × Addr)) (fp : List Addr), DE (X.blk s H scope (compEnvC scope cl C X.env) fp) elt te) (hs : ∀ x, foldedSetIterable iter X.env x = pure x := by intro _; rfl) :
    DS X (.Assign [.Name y py] (.ListComp elt [⟨tg, iter, ifs, 0⟩] scope pos) spos) (dAsg (dLc src sh tt te (own.map (·.2))) (dgName i)) :=
  psM (ps_setLc hc hN hy hyl hsw hi ok hg ht he hs) fun D σ H h => up_lc (fin := fun acc M Q => Q (.lst acc) M) hv fin_froz (up_set h)
theorem ds_setLcM (hc : X.calm = true) (hN : X.N.Nodup) (hy : X.N[i]? = some y) (hyl : X.env.scope.names.lookup y = some .local)
    (hsw : swapsWith (.ListComp elt [⟨tg, iter, ifs, 0⟩] scope pos) (some (.Name y py)) spos.line X.env = pure true) (hi : DI X tg iter src) (ok : BlkOk X.N X.env.scope scope own) (hv : ∀ i ∈ sh.slots, i ∈ own.map (·.2))
    (hg : ∀ (s : Shared) (H : Hp) (C : Addr) (cl : List (Str × Addr)) (fp : List Addr), PG (X.blk s H scope (compEnvC scope cl C X.env) fp) tg (sh.g X.K)) (ht : ∀ (s : Shared) (H : Hp) (C : Addr) (cl : List (Str × Addr)) (fp : List Addr), DTs (X.blk s H scope (compEnvC scope cl C X.env) fp) ifs tt)
    (he : ∀ (s : Shared) (H : Hp) (C : Addr) (cl : List (Str × Addr)) (fp : List Addr), DE (X.blk s H scope (compEnvC scope cl C X.env) fp) elt te) (hs : ∀ x, foldedSetIterable iter X.env x = pure x := by intro _; rfl) :
    DS X (.Assign [.Name y py] (.ListComp elt [⟨tg, iter, ifs, 0⟩] scope pos) spos) (dAsg (dLcM src sh tt te (own.map (·.2))) (dgName i)) :=
  psM (ps_setLc hc hN hy hyl hsw hi ok hg ht he hs) fun D σ H h => up_lc (fin := fun acc M Q => Q (.ref M.length) (M ++ [MO.lst acc])) hv fin_cell (up_set h)
theorem ds_setDc (hc : X.calm = true) (hN : X.N.Nodup) (hy : X.N[i]? = some y) (hyl : X.env.scope.names.lookup y = some .local)
    (hsw : swapsWith (.DictComp kx vx [⟨tg, iter, ifs, 0⟩] scope pos) (some (.Name y py)) spos.line X.env = pure true) (hi : DI X tg iter src) (ok : BlkOk X.N X.env.scope scope own) (hv : ∀ i ∈ sh.slots, i ∈ own.map (·.2))
    (hg : ∀ (s : Shared) (H : Hp) (C : Addr) (cl : List (Str × Addr)) (fp : List Addr), PG (X.blk s H scope (compEnvC scope cl C X.env) fp) tg (sh.g X.K)) (ht : ∀ (s : Shared) (H : Hp) (C : Addr) (cl : List (Str × Addr)) (fp : List Addr), DTs (X.blk s H scope (compEnvC scope cl C X.env) fp) ifs tt)
    (hk : ∀ (s : Shared) (H : Hp) (C : Addr) (cl : List (Str × Addr)) (fp : List Addr), DE (X.blk s H scope (compEnvC scope cl C X.env) fp) kx tk)
    (he : ∀ (s : Shared) (H : Hp) (C : Addr) (cl : List (Str × Addr)) (fp : List Addr), DE (X.blk s H scope (compEnvC scope cl C X.env) fp) vx tv) (hs : ∀ x, foldedSetIterable iter X.env x = pure x := by intro _; rfl) :
    DS X (.Assign [.Name y py] (.DictComp kx vx [⟨tg, iter, ifs, 0⟩] scope pos) spos) (dAsg (dDc src sh tt tk tv (own.map (·.2))) (dgName i)) :=
  psM (ps_setDc hc hN hy hyl hsw hi ok hg ht hk he hs) fun D σ H h => up_dc hv (up_set h)
end
end DL

set_option Elab.async false
set_option linter.all false
set_option maxRecDepth 100000
set_option maxHeartbeats 2000000
/-! DLDat: what the readings over data come to: loops by invariants, cells of the store, what a def hands back. -/
namespace DL
open PySem L2
open PyProof.Rows hiding St

/-! ### loops -/
theorem forGo_inv {g : DTG} {tb : DTS} {keep : Store → Prop} {E : DEnds} (I : Nat → Env' → Store → Prop) {xs : List DL.D} : ∀ (k i : Nat) (ρ : Env') (M : Store), xs.length = i + k → I i ρ M →
    (∀ (i : Nat) (x : DL.D) (ρ : Env') (M : Store), xs[i]? = some x → I i ρ M → keep M ∧ ∀ (go : Env' → Store → Prop), (∀ ρ' M', I (i + 1) ρ' M' → go ρ' M') → g x ρ M fun ρ2 M2 => tb { E with nx := fun ρ' M' => TurnOk M ρ' M' go, ct := fun ρ' M' => TurnOk M ρ' M' go, bk := E.nx } ρ2 M2) →
    (∀ ρ M, I xs.length ρ M → keep M ∧ E.nx ρ M) → forGo g tb keep E (xs.drop i) ρ M
  | 0, i, ρ, M, hl, h, step, fin => by
    have e : i = xs.length := by omega
    subst e
    rw [List.drop_length]
    exact fin ρ M h
  | k + 1, i, ρ, M, hl, h, step, fin => by
    have hi : i < xs.length := by omega
    rw [List.drop_eq_getElem_cons hi]
    obtain ⟨kp, st⟩ := step i xs[i] ρ M (List.getElem?_eq_getElem hi) h
    exact ⟨kp, st _ fun ρ' M' h' => forGo_inv I k (i + 1) ρ' M' (by omega) h' step fin⟩
/-- for x in xs: by an invariant of the turn's number, the names, the store -/
theorem for_inv {g : DTG} {tb : DTS} {keep : Store → Prop} {E : DEnds} {xs : List DL.D} {ρ : Env'} {M : Store} (I : Nat → Env' → Store → Prop) (h0 : I 0 ρ M)
    (step : ∀ (i : Nat) (x : DL.D) (ρ : Env') (M : Store), xs[i]? = some x → I i ρ M → keep M ∧ ∀ (go : Env' → Store → Prop), (∀ ρ' M', I (i + 1) ρ' M' → go ρ' M') → g x ρ M fun ρ2 M2 => tb { E with nx := fun ρ' M' => TurnOk M ρ' M' go, ct := fun ρ' M' => TurnOk M ρ' M' go, bk := E.nx } ρ2 M2)
    (fin : ∀ ρ M, I xs.length ρ M → keep M ∧ E.nx ρ M) : forGo g tb keep E xs ρ M := forGo_inv I xs.length 0 ρ M (by omega) h0 step fin
theorem lcGo_inv {sh : Shape} {vs : List Nat} {keep : Store → Prop} {tt : DTT} {te : DTE} {ρ : Env'} {Q : List D → Store → Prop} (I : Nat → Store → List D → Prop) {xs : List D} : ∀ (k i : Nat) (M : Store) (acc : List D), xs.length = i + k → I i M acc →
    (∀ (i : Nat) (x : D) (M : Store) (acc : List D), xs[i]? = some x → I i M acc → keep M ∧ ∃ ρ2, sh.bind x (dwipe ρ vs) = some ρ2 ∧ ∀ (go : Store → List D → Prop), (∀ M' acc', I (i + 1) M' acc' → go M' acc') →
      tt ρ2 M fun c M3 => if c = true then te ρ2 M3 fun y M4 => acc.length < sizeLine ∧ go M4 (acc ++ [y]) else go M3 acc) →
    (∀ M acc, I xs.length M acc → keep M ∧ Q acc M) → lcGo sh vs keep tt te ρ (xs.drop i) M acc Q
  | 0, i, M, acc, hl, h, step, fin => by
    have e : i = xs.length := by omega
    subst e
    rw [List.drop_length]
    exact fin M acc h
  | k + 1, i, M, acc, hl, h, step, fin => by
    have hi : i < xs.length := by omega
    rw [List.drop_eq_getElem_cons hi]
    obtain ⟨kp, ρ2, eb, st⟩ := step i xs[i] M acc (List.getElem?_eq_getElem hi) h
    refine ⟨kp, ?_⟩
    rw [eb]
    exact st (fun M' acc' => lcGo sh vs keep tt te ρ (xs.drop (i + 1)) M' acc' Q) fun M' acc' h' => lcGo_inv I k (i + 1) M' acc' (by omega) h' step fin
/-- [e for x in xs if ..] by an invariant of the turn's number, the store, what is made so far -/
theorem lc_inv {sh : Shape} {vs : List Nat} {keep : Store → Prop} {tt : DTT} {te : DTE} {ρ : Env'} {Q : List D → Store → Prop} {xs : List D} {M : Store} (I : Nat → Store → List D → Prop) (h0 : I 0 M [])
    (step : ∀ (i : Nat) (x : D) (M : Store) (acc : List D), xs[i]? = some x → I i M acc → keep M ∧ ∃ ρ2, sh.bind x (dwipe ρ vs) = some ρ2 ∧ ∀ (go : Store → List D → Prop), (∀ M' acc', I (i + 1) M' acc' → go M' acc') →
      tt ρ2 M fun c M3 => if c = true then te ρ2 M3 fun y M4 => acc.length < sizeLine ∧ go M4 (acc ++ [y]) else go M3 acc)
    (fin : ∀ M acc, I xs.length M acc → keep M ∧ Q acc M) : lcGo sh vs keep tt te ρ xs M [] Q := lcGo_inv I xs.length 0 M [] (by omega) h0 step fin
/-- [e for x in xs], nothing else done -/
theorem lc_map {sh : Shape} {vs : List Nat} {keep : Store → Prop} {te : DTE} {ρ : Env'} {Q : List D → Store → Prop} {M : Store} (kp : keep M) {γ : Type} (f g : γ → D) (ls : List γ) (hl : ls.length ≤ sizeLine)
    (step : ∀ x ∈ ls, ∃ ρ2, sh.bind (f x) (dwipe ρ vs) = some ρ2 ∧ ∀ K : DK, K (g x) M → te ρ2 M K) (fin : Q (ls.map g) M) : lcGo sh vs keep dYes te ρ (ls.map f) M [] Q := by
  refine lc_inv (fun i M' acc => M' = M ∧ acc = (ls.take i).map g) ⟨rfl, rfl⟩ (fun i x M' acc ex h => ?_) fun M' acc h => ?_
  · obtain ⟨rfl, rfl⟩ := h
    rw [List.getElem?_map] at ex
    obtain ⟨y, ey, rfl⟩ := Option.map_eq_some_iff.mp ex
    have hi : i < ls.length := (List.getElem?_eq_some_iff.mp ey).1
    obtain ⟨ρ2, eb, st⟩ := step y (List.mem_of_getElem? ey)
    refine ⟨kp, ρ2, eb, fun go k => ?_⟩
    unfold dYes
    dsimp only
    rw [if_pos rfl]
    refine st _ ⟨by rw [List.length_map, List.length_take]; omega, k _ _ ⟨rfl, ?_⟩⟩
    rw [List.take_add_one, ey]
    simp
  · obtain ⟨rfl, rfl⟩ := h
    rw [List.length_map, List.take_length]
    exact ⟨kp, fin⟩
/-- [e for x in xs if t], nothing else done -/
theorem lc_filter {sh : Shape} {vs : List Nat} {keep : Store → Prop} {tt : DTT} {te : DTE} {ρ : Env'} {Q : List D → Store → Prop} {M : Store} (kp : keep M) {γ : Type} (f : γ → D) (g : γ → Option D) (ls : List γ) (hl : ls.length ≤ sizeLine)
    (step : ∀ x ∈ ls, ∃ ρ2, sh.bind (f x) (dwipe ρ vs) = some ρ2 ∧ ∀ K : Bool → Store → Prop, K (g x).isSome M → tt ρ2 M K) (val : ∀ x ∈ ls, ∀ d, g x = some d → ∀ ρ2, sh.bind (f x) (dwipe ρ vs) = some ρ2 → ∀ K : DK, K d M → te ρ2 M K)
    (fin : Q (ls.filterMap g) M) : lcGo sh vs keep tt te ρ (ls.map f) M [] Q := by
  refine lc_inv (fun i M' acc => M' = M ∧ acc = (ls.take i).filterMap g) ⟨rfl, rfl⟩ (fun i x M' acc ex h => ?_) fun M' acc h => ?_
  · obtain ⟨rfl, rfl⟩ := h
    rw [List.getElem?_map] at ex
    obtain ⟨y, ey, rfl⟩ := Option.map_eq_some_iff.mp ex
    have hi : i < ls.length := (List.getElem?_eq_some_iff.mp ey).1
    obtain ⟨ρ2, eb, st⟩ := step y (List.mem_of_getElem? ey)
    have et : ls.take (i + 1) = ls.take i ++ [y] := by rw [List.take_add_one, ey]; rfl
    refine ⟨kp, ρ2, eb, fun go k => st _ ?_⟩
    cases eg : g y with
    | none =>
      rw [Option.isSome_none, if_neg Bool.false_ne_true]
      exact k _ _ ⟨rfl, by rw [et, List.filterMap_append]; simp [eg]⟩
    | some d =>
      rw [Option.isSome_some, if_pos rfl]
      refine val y (List.mem_of_getElem? ey) d eg ρ2 eb _ ⟨?_, k _ _ ⟨rfl, by rw [et, List.filterMap_append]; simp [eg]⟩⟩
      have := List.length_filterMap_le g (ls.take i)
      rw [List.length_take] at this
      omega
  · obtain ⟨rfl, rfl⟩ := h
    rw [List.length_map, List.take_length]
    exact ⟨kp, fin⟩

/-! ### what is handed back -/
theorem RetOk.keep {M : Store} {d : D} {M2 : Store} {Q : DK} (h : Q d M2) : RetOk M d M2 Q := .inl h
/-- the def's own cells dropped -/
theorem RetOk.drop {M G : Store} {d : D} {Q : DK} (hb : d.bel M.length) (h : Q d M) : RetOk M d (M ++ G) Q := .inr ⟨d, M, G, rfl, Nat.le_refl _, fun i o e => .inl e, .keep hb, h⟩
theorem fz_items {M : Store} {n : Nat} {ds : List D} (h : belows n ds) : ∀ (i : Nat) (d d' : D), ds[i]? = some d → ds[i]? = some d' → Fz M n d d' := fun i d d' e1 e2 => by
  rw [e1] at e2
  cases e2
  exact .keep (belows_get h e1)
/-- the def's own list handed back: it stays as it is from now on -/
theorem RetOk.lst {M G : Store} {ds : List D} {Q : DK} {k : Nat} (hk : M.length ≤ k) (he : (M ++ G)[k]? = some (.lst ds)) (hb : belows M.length ds) (h : Q (.lst ds) M) : RetOk M (.ref k) (M ++ G) Q :=
  .inr ⟨.lst ds, M, G, rfl, Nat.le_refl _, fun i o e => .inl e, .cl hk he rfl (fz_items hb), h⟩
theorem RetOk.dk {M G : Store} {kvs : List (Key × D)} {Q : DK} {k : Nat} (hk : M.length ≤ k) (he : (M ++ G)[k]? = some (.dk kvs)) (hb : belowK M.length kvs) (h : Q (.dk kvs) M) : RetOk M (.ref k) (M ++ G) Q :=
  .inr ⟨.dk kvs, M, G, rfl, Nat.le_refl _, fun i o e => .inl e, .cdk hk he rfl fun i d d' e1 e2 => by
    rw [e1] at e2
    cases e2
    exact .keep (belowK_iff.mp hb d (List.mem_of_getElem? e1)), h⟩
theorem RetOk.dn {M G : Store} {kvs : List (NestedKey × D)} {Q : DK} {k : Nat} (hk : M.length ≤ k) (he : (M ++ G)[k]? = some (.dn kvs)) (hb : belowN M.length kvs) (h : Q (.dn kvs) M) : RetOk M (.ref k) (M ++ G) Q :=
  .inr ⟨.dn kvs, M, G, rfl, Nat.le_refl _, fun i o e => .inl e, .cdn hk he rfl fun i d d' e1 e2 => by
    rw [e1] at e2
    cases e2
    exact .keep (belowN_iff.mp hb d (List.mem_of_getElem? e1)), h⟩
/-- the same where cells of the caller's changed: L' in place of L -/
theorem RetOk.cut {L L' G : Store} {d d' : D} {Q : DK} (hl : L.length ≤ L'.length) (hb : ∀ o ∈ L', o.bel L'.length) (hz : Fz (L' ++ G) L'.length d d') (h : Q d' L') : RetOk L d (L' ++ G) Q :=
  .inr ⟨d', L', G, rfl, hl, fun i o e => .inr (hb o (List.mem_of_getElem? e)), hz, h⟩
/-! ### cells -/
theorem get_at (M L : Store) (k : Nat) : (M ++ L)[M.length + k]? = L[k]? := by
  rw [List.getElem?_append_right (Nat.le_add_right _ _)]
  simp
theorem get_at0 (M L : Store) : (M ++ L)[M.length]? = L[0]? := get_at M L 0
theorem set_at (M L : Store) (k : Nat) (o : MO) : (M ++ L).set (M.length + k) o = M ++ L.set k o := by
  rw [List.set_append_right _ _ (Nat.le_add_right _ _)]
  simp
theorem set_at0 (M L : Store) (o : MO) : (M ++ L).set M.length o = M ++ L.set 0 o := set_at M L 0 o

/-! ### items -/
theorem ixN_at {n j : Nat} (hj : j < n) : ixN n (j : Int) = some j := by
  unfold ixN
  rw [if_pos (by omega), if_pos (by omega)]
  simp
theorem viewS_cell {ds : List D} {k : Nat} {M : Store} (e0 : M[k]? = some (.lst ds)) : viewS M (.ref k) = some ds := by
  show (match M[k]? with | some (.lst ds) => some ds | _ => none) = some ds
  rw [e0]
theorem viewL_cell {ds : List D} {k : Nat} {M : Store} (e0 : M[k]? = some (.lst ds)) : viewL M (.ref k) = some ds := by
  show (match M[k]? with | some (.lst ds) => some ds | _ => none) = some ds
  rw [e0]
theorem atI_nat {α : Type} {l : List α} {n : Nat} {x : α} (h : l[n]? = some x) : atI l ((n : Nat) : Int) = some x := by
  have hn : n < l.length := (List.getElem?_eq_some_iff.mp h).1
  have e : ixN l.length ((n : Nat) : Int) = some n := ixN_at (by omega)
  unfold atI
  rw [e]
  exact h
theorem ixR_lst {γ : Type} {f : γ → D} {l : List γ} {n : Nat} {x : γ} {M : Store} {Q : DK} (h : l[n]? = some x) (q : Q (f x) M) : ixR (.lst (l.map f)) (.int ((n : Nat) : Int)) M Q := by
  have e : ixD M (.lst (l.map f)) (.int ((n : Nat) : Int)) = some (f x) := atI_nat (by rw [List.getElem?_map, h]; rfl)
  unfold ixR
  rw [e]
  exact ⟨trivial, q⟩
theorem ixR_tupm {γ : Type} {f : γ → D} {l : List γ} {n : Nat} {x : γ} {M : Store} {Q : DK} (h : l[n]? = some x) (q : Q (f x) M) : ixR (.tup (l.map f)) (.int ((n : Nat) : Int)) M Q := by
  have e : ixD M (.tup (l.map f)) (.int ((n : Nat) : Int)) = some (f x) := atI_nat (by rw [List.getElem?_map, h]; rfl)
  unfold ixR
  rw [e]
  exact ⟨trivial, q⟩
theorem ixR_tup {ds : List D} {n : Nat} {x : D} {M : Store} {Q : DK} (h : ds[n]? = some x) (q : Q x M) : ixR (.tup ds) (.int ((n : Nat) : Int)) M Q := by
  have e : ixD M (.tup ds) (.int ((n : Nat) : Int)) = some x := atI_nat h
  unfold ixR
  rw [e]
  exact ⟨trivial, q⟩
theorem ixR_lst' {ds : List D} {n : Nat} {x : D} {M : Store} {Q : DK} (h : ds[n]? = some x) (q : Q x M) : ixR (.lst ds) (.int ((n : Nat) : Int)) M Q := by
  have e : ixD M (.lst ds) (.int ((n : Nat) : Int)) = some x := atI_nat h
  unfold ixR
  rw [e]
  exact ⟨trivial, q⟩
theorem ixR_cell {ds : List D} {k n : Nat} {x : D} {M : Store} {Q : DK} (e0 : M[k]? = some (.lst ds)) (h : ds[n]? = some x) (q : Q x M) : ixR (.ref k) (.int ((n : Nat) : Int)) M Q := by
  have e : ixD M (.ref k) (.int ((n : Nat) : Int)) = some x := by
    show (match viewS M (.ref k) with | some ds => (some ((n : Nat) : Int)).bind (atI ds) | none => (dGet M (.ref k) (.int n)).bind id) = _
    rw [viewS_cell e0]
    exact atI_nat h
  unfold ixR
  rw [e]
  exact ⟨trivial, q⟩
theorem ixR_str {z : Str} {n : Nat} {c : Nat} {M : Store} {Q : DK} (hz : z.length ≤ sizeLine) (h : z.cps.toList[n]? = some c) (q : Q (.str ⟨#[c]⟩) M) : ixR (.str z) (.int ((n : Nat) : Int)) M Q := by
  have e : ixD M (.str z) (.int ((n : Nat) : Int)) = some (.str ⟨#[c]⟩) := by
    show ((some ((n : Nat) : Int)).bind fun i => (atI z.cps.toList i).map fun c => D.str ⟨#[c]⟩) = _
    rw [Option.bind_some, atI_nat h]
    rfl
  unfold ixR
  rw [e]
  exact ⟨hz, q⟩
theorem lenR_cell {ds : List D} {k : Nat} {M : Store} {Q : DK} (e0 : M[k]? = some (.lst ds)) (q : Q (.int ds.length) M) : lenR [.ref k] M Q := by
  show (match viewS M (.ref k) with | some ds => Q (.int ds.length) M | none => False)
  rw [viewS_cell e0]
  exact q
theorem append_cell {ds : List D} {k : Nat} {y : D} {M : Store} {Q : DK} (e0 : M[k]? = some (.lst ds)) (hl : ds.length < sizeLine) (q : Q .non (M.set k (.lst (ds ++ [y])))) : appendR (.ref k) [y] M Q := by
  show (match M[k]? with | some (.lst ds) => ds.length < sizeLine ∧ Q .non (M.set k (.lst (ds ++ [y]))) | _ => False)
  rw [e0]
  exact ⟨hl, q⟩
theorem small {n : Nat} (h : n ≤ 16000000) : n < sizeLine := Nat.lt_of_le_of_lt h (by decide)
theorem small' {n : Nat} (h : n ≤ 16000000) : n ≤ sizeLine := Nat.le_of_lt (small h)

/-! ### operations, one at a time -/
section
variable {M : Store} {Q : DK}
theorem eqR_int {i j : Int} (q : Q (.bl (decide (i = j))) M) : eqR (.int i) (.int j) M Q := q
theorem eqR_str {i j : Str} (q : Q (.bl (decide (i = j))) M) : eqR (.str i) (.str j) M Q := q
theorem eqR_bl {i j : Bool} (q : Q (.bl (decide (i = j))) M) : eqR (.bl i) (.bl j) M Q := q
theorem neR_int {i j : Int} (q : Q (.bl (!decide (i = j))) M) : neR (.int i) (.int j) M Q := q
theorem neR_str {i j : Str} (q : Q (.bl (!decide (i = j))) M) : neR (.str i) (.str j) M Q := q
theorem ltR_int {i j : Int} (q : Q (.bl (decide (i < j))) M) : ltR (.int i) (.int j) M Q := q
theorem leR_int {i j : Int} (q : Q (.bl (decide (i ≤ j))) M) : leR (.int i) (.int j) M Q := q
theorem gtR_int {i j : Int} (q : Q (.bl (decide (j < i))) M) : gtR (.int i) (.int j) M Q := q
theorem geR_int {i j : Int} (q : Q (.bl (decide (j ≤ i))) M) : geR (.int i) (.int j) M Q := q
theorem addR_int {i j : Int} (q : Q (.int (i + j)) M) : addR (.int i) (.int j) M Q := q
theorem addR_str {i j : Str} (h : i.length + j.length ≤ sizeLine) (q : Q (.str (i ++ j)) M) : addR (.str i) (.str j) M Q := ⟨h, q⟩
theorem iaddR_int {i j : Int} (q : Q (.int (i + j)) M) : iaddR (.int i) (.int j) M Q := q
theorem subR_int {i j : Int} (q : Q (.int (i - j)) M) : subR (.int i) (.int j) M Q := q
theorem mulR_int {i j : Int} (h : CMul i j) (q : Q (.int (i * j)) M) : mulR (.int i) (.int j) M Q := ⟨h, q⟩
theorem modR_int {i j : Int} (h : j ≠ 0) (q : Q (.int (i.fmod j)) M) : modR (.int i) (.int j) M Q := ⟨h, q⟩
theorem fdivR_int {i j : Int} (h : CDivN i j) (q : Q (.int (i.fdiv j)) M) : fdivR (.int i) (.int j) M Q := ⟨h, q⟩
theorem powR_int {i j : Int} (h : CPow i j) (q : Q (.int (i ^ j.toNat)) M) : powR (.int i) (.int j) M Q := ⟨h, q⟩
theorem isNR_q {x : D} (q : Q (.bl x.isN) M) : isNR x .non M Q := q
theorem notNR_q {x : D} (q : Q (.bl (!x.isN)) M) : notNR x .non M Q := q
theorem lenR_lst {ds : List D} (q : Q (.int ds.length) M) : lenR [.lst ds] M Q := q
theorem lenR_tup {ds : List D} (q : Q (.int ds.length) M) : lenR [.tup ds] M Q := q
theorem lenR_str {z : Str} (h : z.length ≤ sizeLine) (q : Q (.int z.length) M) : lenR [.str z] M Q := ⟨h, q⟩
theorem intCR_int {i : Int} (q : Q (.int i) M) : intCR [.int i] M Q := q
theorem intCR_bl {b : Bool} (q : Q (.int (if b then 1 else 0)) M) : intCR [.bl b] M Q := q
theorem absR_int {i : Int} (q : Q (.int (if i < 0 then -i else i)) M) : absR [.int i] M Q := q
theorem ite_dec {c : Prop} [Decidable c] {A B : Prop} (h1 : c → A) (h2 : ¬ c → B) : if decide c = true then A else B := by
  by_cases h : c
  · rw [if_pos (decide_eq_true h)]; exact h1 h
  · rw [if_neg (by simpa using h)]; exact h2 h
theorem ite_ndec {c : Prop} [Decidable c] {A B : Prop} (h1 : ¬ c → A) (h2 : c → B) : if (!decide c) = true then A else B := by
  by_cases h : c
  · rw [if_neg (by simpa using h)]; exact h2 h
  · rw [if_pos (by simpa using h)]; exact h1 h
theorem ite_bool {c : Bool} {A B : Prop} (h1 : c = true → A) (h2 : c = false → B) : if c = true then A else B := by
  cases c
  · rw [if_neg Bool.false_ne_true]; exact h2 rfl
  · rw [if_pos rfl]; exact h1 rfl
theorem ite_nbool {c : Bool} {A B : Prop} (h1 : c = false → A) (h2 : c = true → B) : if (!c) = true then A else B := by
  cases c
  · exact (if_pos (show (!false) = true from rfl)).symm ▸ h1 rfl
  · exact (if_neg (show ¬ (!true) = true from Bool.false_ne_true)).symm ▸ h2 rfl
theorem tyM_lst {k : Nat} {ds : List D} (e : M[k]? = some (.lst ds)) : tyM M (.ref k) = some "list" := by
  show (match M[k]? with | some (.lst _) => some "list" | some (.dk _) => some "dict" | some (.dn _) => some "dict" | _ => none) = _
  rw [e]
theorem tyM_dk {k : Nat} {ds : List (Key × D)} (e : M[k]? = some (.dk ds)) : tyM M (.ref k) = some "dict" := by
  show (match M[k]? with | some (.lst _) => some "list" | some (.dk _) => some "dict" | some (.dn _) => some "dict" | _ => none) = _
  rw [e]
theorem tyM_dn {k : Nat} {ds : List (NestedKey × D)} (e : M[k]? = some (.dn ds)) : tyM M (.ref k) = some "dict" := by
  show (match M[k]? with | some (.lst _) => some "list" | some (.dk _) => some "dict" | some (.dn _) => some "dict" | _ => none) = _
  rw [e]
end

/-! ### dicts as lists of pairs -/
section
variable {κ κ' α β : Type} [DecidableEq κ] [DecidableEq κ']
theorem aGet_map {c : κ → κ'} (inj : ∀ a b, c a = c b → a = b) (g : α → β) (k : κ) : ∀ f : List (κ × α), aGet (f.map fun p => (c p.1, g p.2)) (c k) = (aGet f k).map g
  | [] => rfl
  | p :: r => by
    rw [List.map_cons, aGet_cons, aGet_cons]
    by_cases e : p.1 = k
    · rw [if_pos e, if_pos (show (c p.1, g p.2).1 = c k from congrArg c e)]
      rfl
    · rw [if_neg e, if_neg (fun z => e (inj _ _ z))]
      exact aGet_map inj g k r
theorem aPut_map {c : κ → κ'} (inj : ∀ a b, c a = c b → a = b) (g : α → β) (k : κ) (v : α) (f : List (κ × α)) : aPut (f.map fun p => (c p.1, g p.2)) (c k) (g v) = (aPut f k v).map fun p => (c p.1, g p.2) := by
  unfold aPut
  rw [aGet_map inj g k f, Option.isSome_map]
  by_cases h : (aGet f k).isSome = true
  · rw [if_pos h, if_pos h, List.map_map, List.map_map]
    refine List.map_congr_left fun p _ => ?_
    show (if c p.1 = c k then (c p.1, g v) else (c p.1, g p.2)) = (fun p => (c p.1, g p.2)) (if p.1 = k then (p.1, v) else p)
    by_cases e : p.1 = k
    · rw [if_pos e, if_pos (congrArg c e)]
    · rw [if_neg e, if_neg (fun z => e (inj _ _ z))]
  · rw [if_neg h, if_neg h, List.map_append]
    rfl
theorem aGet_append (f : List (κ × α)) (k : κ) (v : α) (k' : κ) : aGet (f ++ [(k, v)]) k' = (aGet f k').or (if k = k' then some v else none) := by
  induction f with
  | nil =>
    rw [List.nil_append, aGet_cons]
    rfl
  | cons p r ih =>
    rw [List.cons_append, aGet_cons, aGet_cons, ih]
    by_cases e : p.1 = k'
    · rw [if_pos e, if_pos e]
      rfl
    · rw [if_neg e, if_neg e]
theorem aGet_over (f : List (κ × α)) (k : κ) (v : α) (k' : κ) : aGet (f.map fun p => if p.1 = k then (p.1, v) else p) k' = if k = k' then (aGet f k').map fun _ => v else aGet f k' := by
  induction f with
  | nil => split <;> rfl
  | cons p r ih =>
    rw [List.map_cons, aGet_cons, aGet_cons, ih]
    by_cases h : k = k'
    · subst h
      rw [if_pos rfl, if_pos rfl]
      by_cases e : p.1 = k
      · rw [if_pos e, if_pos e]
        simp [e]
      · rw [if_neg e, if_neg e]
        simp [e]
    · rw [if_neg h, if_neg h]
      by_cases e : p.1 = k
      · have e2 : ¬ p.1 = k' := fun z => h (e.symm.trans z)
        rw [if_pos e, if_neg e2]
        simp [e2]
      · rw [if_neg e]
theorem aGet_aPut (f : List (κ × α)) (k : κ) (v : α) (k' : κ) : aGet (aPut f k v) k' = if k = k' then some v else aGet f k' := by
  unfold aPut
  by_cases h : (aGet f k).isSome = true
  · rw [if_pos h, aGet_over]
    by_cases e : k = k'
    · subst e
      rw [if_pos rfl, if_pos rfl]
      obtain ⟨x, hx⟩ := Option.isSome_iff_exists.mp h
      rw [hx]
      rfl
    · rw [if_neg e, if_neg e]
  · rw [if_neg h, aGet_append]
    by_cases e : k = k'
    · subst e
      rw [if_pos rfl, if_pos rfl]
      have : aGet f k = none := by simpa using h
      rw [this]
      rfl
    · rw [if_neg e, if_neg e, Option.or_none]
theorem aPut_len (f : List (κ × α)) (k : κ) (v : α) : (aPut f k v).length ≤ f.length + 1 := len_aPut f k v
end

/-- a key as a value -/
def kD' : Key → D
  | .inl i => .int i
  | .inr z => .str z
theorem setR_dk {kvs : List (Key × D)} {n : Nat} {i v : D} {k : Key} {M : Store} {Q : Store → Prop} (e : M[n]? = some (.dk kvs)) (ek : dkey i = some k) (hl : kvs.length < sizeLine) (q : Q (M.set n (.dk (aPut kvs k v)))) : setR (.ref n) i v M Q := by
  unfold setR
  dsimp only
  rw [e]
  dsimp only
  rw [ek]
  exact ⟨hl, q⟩
theorem setR_dn {kvs : List (NestedKey × D)} {n : Nat} {i v : D} {k : NestedKey} {M : Store} {Q : Store → Prop} (e : M[n]? = some (.dn kvs)) (ek : tkey i = some k) (hd : k.depth ≤ 8) (hl : kvs.length < sizeLine) (q : Q (M.set n (.dn (aPut kvs k v)))) : setR (.ref n) i v M Q := by
  unfold setR
  dsimp only
  rw [e]
  dsimp only
  rw [ek]
  exact ⟨hd, hl, q⟩
theorem setR_lst {ds : List D} {n j : Nat} {v : D} {M : Store} {Q : Store → Prop} (e : M[n]? = some (.lst ds)) (hj : j < ds.length) (q : Q (M.set n (.lst (ds.set j v)))) : setR (.ref n) (.int ((j : Nat) : Int)) v M Q := by
  have ei : (intOf (.int ((j : Nat) : Int))).bind (ixN ds.length) = some j := ixN_at hj
  unfold setR
  dsimp only
  rw [e]
  dsimp only
  rw [ei]
  exact q
theorem ixR_dk {kvs : List (Key × D)} {y x : D} {k : Key} {M : Store} {Q : DK} (ek : dkey y = some k) (h : aGet kvs k = some x) (q : Q x M) : ixR (.dk kvs) y M Q := by
  have e : ixD M (.dk kvs) y = some x := by
    show ((dkey y).map (aGet kvs)).bind id = _
    rw [ek]
    exact h
  unfold ixR
  rw [e]
  exact ⟨trivial, q⟩
theorem ixR_dn {kvs : List (NestedKey × D)} {y x : D} {k : NestedKey} {M : Store} {Q : DK} (ek : tkey y = some k) (hd : k.depth ≤ 8) (h : aGet kvs k = some x) (q : Q x M) : ixR (.dn kvs) y M Q := by
  have e : ixD M (.dn kvs) y = some x := by
    show ((tkey y).bind fun k => if k.depth ≤ 8 then some (aGet kvs k) else none).bind id = _
    rw [ek, Option.bind_some, if_pos hd]
    exact h
  unfold ixR
  rw [e]
  exact ⟨trivial, q⟩
theorem dGet_dk {kvs : List (Key × D)} {n : Nat} {y : D} {k : Key} {M : Store} (e : M[n]? = some (.dk kvs)) (ek : dkey y = some k) : dGet M (.ref n) y = some (aGet kvs k) := by
  unfold dGet
  dsimp only
  rw [e]
  dsimp only
  rw [ek]
  rfl
theorem dGet_dn {kvs : List (NestedKey × D)} {n : Nat} {y : D} {k : NestedKey} {M : Store} (e : M[n]? = some (.dn kvs)) (ek : tkey y = some k) (hd : k.depth ≤ 8) : dGet M (.ref n) y = some (aGet kvs k) := by
  unfold dGet
  dsimp only
  rw [e]
  dsimp only
  rw [ek, Option.bind_some, if_pos hd]
theorem dGet_fdn {kvs : List (NestedKey × D)} {y : D} {k : NestedKey} {M : Store} (ek : tkey y = some k) (hd : k.depth ≤ 8) : dGet M (.dn kvs) y = some (aGet kvs k) := by
  show (tkey y).bind (fun k => if k.depth ≤ 8 then some (aGet kvs k) else none) = _
  rw [ek, Option.bind_some, if_pos hd]
theorem notInR_at {x y : D} {o : Option D} {M : Store} {Q : DK} (e : dGet M x y = some o) (q : Q (.bl (!o.isSome)) M) : notInR y x M Q := by
  unfold notInR
  rw [e]
  exact q
theorem inR_at {x y : D} {o : Option D} {M : Store} {Q : DK} (e : dGet M x y = some o) (q : Q (.bl o.isSome) M) : DL.inR y x M Q := by
  unfold DL.inR
  rw [e]
  exact q
theorem getOr_at {x y z : D} {o : Option D} {M : Store} {Q : DK} (e : dGet M x y = some o) (q : Q (o.getD z) M) : getOr x [y, z] M Q := by
  show (match dGet M x y with | some o => Q (o.getD z) M | none => False)
  rw [e]
  exact q
theorem cutD_tail (xs : List D) : cutD xs (some 1) none = xs.tail := by
  unfold cutD
  cases xs with
  | nil => simp
  | cons x r =>
    have h1 : HT.sIx (x :: r).length 0 (some 1) = 1 := by
      rw [List.length_cons]
      have := HT.sIx
      simp [HT.sIx]
      try omega
    have h2 : HT.sIx (x :: r).length (x :: r).length none = (x :: r).length := by simp [HT.sIx]
    rw [h1, h2]
    simp
theorem sliceR_lst {xs : List D} {lo hi : Option Int} {M : Store} {Q : DK} (q : Q (.lst (cutD xs lo hi)) M) : sliceR (.lst xs) lo hi M Q := q
theorem sliceR_tup {xs : List D} {lo hi : Option Int} {M : Store} {Q : DK} (q : Q (.tup (cutD xs lo hi)) M) : sliceR (.tup xs) lo hi M Q := q
theorem sliceR_str {z : Str} {lo hi : Option Int} {M : Store} {Q : DK} (h : z.length ≤ sizeLine) (q : Q (.str (cutS z lo hi)) M) : sliceR (.str z) lo hi M Q := ⟨h, q⟩
end DL

set_option Elab.async false
set_option linter.all false
set_option maxRecDepth 100000
set_option maxHeartbeats 2000000
/-! DLTxt: texts by their signs. -/
namespace DL
open PySem L2
open PyProof.Rows hiding St signs inR
theorem signs_app (a b : Str) : signs (a ++ b) = signs a ++ signs b := by
  unfold signs
  show (a.cps ++ b.cps).toList.map _ = _
  rw [Array.toList_append, List.map_append]
theorem signs_cut {z : Str} {lo hi : Option Int} {c : Str} (h : c ∈ signs (cutS z lo hi)) : c ∈ signs z := by
  unfold signs cutS at *
  obtain ⟨x, hx, rfl⟩ := List.mem_map.mp h
  refine List.mem_map.mpr ⟨x, ?_, rfl⟩
  have hx : x ∈ (z.cps.toList.drop (HT.sIx z.length 0 lo)).take (HT.sIx z.length z.length hi - HT.sIx z.length 0 lo) := by simpa using hx
  exact List.mem_of_mem_drop (List.mem_of_mem_take hx)
theorem foldl_app_toList (l : List (Array Nat)) (a : Array Nat) : (l.foldl (· ++ ·) a).toList = a.toList ++ (l.map (·.toList)).flatten := by
  induction l generalizing a with
  | nil => simp
  | cons x l ih =>
    rw [List.foldl_cons, ih]
    simp
theorem signs_mul {z : Str} {n : Int} {c : Str} (h : c ∈ signs (Txt.mul z n)) : c ∈ signs z := by
  unfold Txt.mul at h
  split at h
  · simp [signs, Str.empty] at h
  · split at h
    · exact h
    · unfold signs at *
      obtain ⟨x, hx, rfl⟩ := List.mem_map.mp h
      refine List.mem_map.mpr ⟨x, ?_, rfl⟩
      have hx : x ∈ ((List.replicate n.toNat z.cps).foldl (· ++ ·) (#[] : Array Nat)).toList := hx
      rw [foldl_app_toList] at hx
      simp only [List.nil_append, List.mem_flatten, List.map_replicate] at hx
      obtain ⟨l, hl, hx⟩ := hx
      rw [List.eq_of_mem_replicate hl] at hx
      exact hx
theorem mul_len (z : Str) {n : Int} (h : 0 ≤ n) : (Txt.mul z n).length ≤ z.length * n.toNat := by
  unfold Txt.mul
  split
  · exact Nat.zero_le _
  · split
    · rename_i h1 h2
      have : 1 ≤ n.toNat := by omega
      calc z.length = z.length * 1 := by omega
        _ ≤ z.length * n.toNat := Nat.mul_le_mul_left _ this
    · show ((List.replicate n.toNat z.cps).foldl (· ++ ·) (#[] : Array Nat)).size ≤ _
      rw [← Array.length_toList, foldl_app_toList]
      simp only [List.nil_append, List.map_replicate, List.length_flatten, List.map_replicate, List.sum_replicate_nat, Array.length_toList]
      rw [Nat.mul_comm]
      exact Nat.le_refl _
/-- one sign -/
def One (c : Str) : Prop := ∃ n, c = ⟨#[n]⟩
theorem signs_one {z c : Str} (h : c ∈ signs z) : One c := by
  unfold signs at h
  obtain ⟨x, _, rfl⟩ := List.mem_map.mp h
  exact ⟨x, rfl⟩
theorem signs_empty : signs ⟨#[]⟩ = [] := rfl
theorem signs_join : ∀ ys : List Str, signs (Txt.join ⟨#[]⟩ ys) = (ys.map signs).flatten := fun ys => by
  rw [show Txt.join ⟨#[]⟩ ys = Str.join ⟨#[]⟩ ys from PySem.StrLaws.glued_eq_join _ _]
  induction ys with
  | nil => rfl
  | cons x r ih =>
    cases r with
    | nil =>
      show signs x = _
      simp
    | cons y r =>
      show signs (x ++ ⟨#[]⟩ ++ Str.join ⟨#[]⟩ (y :: r)) = _
      rw [signs_app, signs_app, signs_empty, ih]
      simp
theorem signs_one_eq {c : Str} (h : One c) : signs c = [c] := by
  obtain ⟨n, rfl⟩ := h
  rfl
theorem signs_join_one {ys : List Str} (h : ∀ y ∈ ys, One y) : signs (Txt.join ⟨#[]⟩ ys) = ys := by
  rw [signs_join]
  induction ys with
  | nil => rfl
  | cons y r ih =>
    rw [List.map_cons, List.flatten_cons, signs_one_eq (h y (List.mem_cons_self ..)), ih fun z hz => h z (List.mem_cons_of_mem _ hz)]
    rfl
theorem str_of_signs {a b : Str} (h : signs a = signs b) : a = b := by
  have e : a.cps.toList = b.cps.toList := by
    unfold signs at h
    have inj : ∀ (l r : List Nat), l.map (fun c => (⟨#[c]⟩ : Str)) = r.map (fun c => (⟨#[c]⟩ : Str)) → l = r := fun l => by
      induction l with
      | nil => intro r h; cases r with
        | nil => rfl
        | cons _ _ => cases h
      | cons x l ih =>
        intro r h
        cases r with
        | nil => cases h
        | cons y r =>
          simp only [List.map_cons, List.cons.injEq] at h
          have hx : x = y := by
            have := congrArg (fun s : Str => s.cps[0]?) h.1
            simpa using this
          rw [hx, ih r h.2]
    exact inj _ _ h
  cases a; cases b
  exact congrArg Str.mk (Array.toList_inj.mp e)
theorem len_signs (z : Str) : z.length = (signs z).length := by
  unfold signs
  rw [List.length_map, Array.length_toList]
  rfl
theorem one_len {c : Str} (h : One c) : c.length = 1 := by
  obtain ⟨n, rfl⟩ := h
  rfl
theorem ones_sum {ys : List Str} (h : ∀ y ∈ ys, One y) : (ys.map (·.length)).sum = ys.length := by
  induction ys with
  | nil => rfl
  | cons y r ih =>
    rw [List.map_cons, List.sum_cons, one_len (h y (List.mem_cons_self ..)), ih fun z hz => h z (List.mem_cons_of_mem _ hz), List.length_cons]
    omega
theorem strOk_signs {z : Str} : PyData.strOk z = true ↔ ∀ c ∈ signs z, PyData.strOk c = true := by
  unfold PyData.strOk
  rw [Array.all_eq_true_iff_forall_mem]
  unfold signs
  constructor
  · intro h c hc
    obtain ⟨x, hx, rfl⟩ := List.mem_map.mp hc
    have := h x (by simpa using hx)
    simpa using this
  · intro h x hx
    have := h ⟨#[x]⟩ (List.mem_map.mpr ⟨x, by simpa using hx, rfl⟩)
    simpa using this
/-! operations on texts -/
section
variable {M : Store} {Q : DK}
theorem strsOf_at {x : D} {ys : List Str} (e : viewS M x = some (ys.map D.str)) : (viewS M x).bind strsOf = some ys := by
  rw [e]
  exact strsOf_map ys
theorem joinR_at {x : D} {ys : List Str} (e : viewS M x = some (ys.map D.str)) (h : (ys.map (·.length)).sum ≤ 16777216) (q : Q (.str (Txt.join ⟨#[]⟩ ys)) M) : joinR (.str ⟨#[]⟩) [x] M Q := by
  show (match (viewS M x).bind strsOf with | some ys => (ys.map (·.length)).sum + ys.length * (⟨#[]⟩ : Str).length ≤ 16777216 ∧ Q (.str (Txt.join ⟨#[]⟩ ys)) M | none => False)
  rw [strsOf_at e]
  refine ⟨?_, q⟩
  show _ + _ * 0 ≤ _
  omega
/-- x[i], x a text -/
theorem ixR_sign {z : Str} {n : Nat} {c : Str} (hz : z.length ≤ sizeLine) (h : (signs z)[n]? = some c) (q : Q (.str c) M) : ixR (.str z) (.int ((n : Nat) : Int)) M Q := by
  unfold signs at h
  rw [List.getElem?_map] at h
  obtain ⟨x, ex, rfl⟩ := Option.map_eq_some_iff.mp h
  exact ixR_str hz ex q
theorem pop_cell {ds : List D} {k n : Nat} {y : D} (e0 : M[k]? = some (.lst ds)) (h : ds[n]? = some y) (hl : ds.length ≤ sizeLine) (q : Q y (M.set k (.lst (ds.eraseIdx n)))) : popAtR (.ref k) [.int ((n : Nat) : Int)] M Q := by
  have hn : n < ds.length := (List.getElem?_eq_some_iff.mp h).1
  show (match M[k]? with | some (.lst ds) => 0 ≤ ((n : Nat) : Int) ∧ ((n : Nat) : Int) < ds.length ∧ ds.length ≤ sizeLine ∧ (match ds[((n : Nat) : Int).toNat]? with | some y => Q y (M.set k (.lst (ds.eraseIdx ((n : Nat) : Int).toNat))) | none => False) | _ => False)
  rw [e0]
  dsimp only
  rw [Int.toNat_natCast, h]
  exact ⟨by omega, by omega, hl, q⟩
theorem mulR_str {z : Str} {n : Int} (h : MulOk z n) (q : Q (.str (Txt.mul z n)) M) : mulR (.str z) (.int n) M Q := ⟨h, q⟩
theorem mulOk {z : Str} {n : Nat} (h1 : n ≤ 1000) (h2 : z.length ≤ 1000) : MulOk z n := by
  have hs := sizeLine_eq
  have h3 : z.length * n ≤ 1000000 := Nat.mul_le_mul h2 h1
  refine ⟨?_, fun hn _ => ?_, fun hn _ => ?_⟩
  · rw [Bool.or_eq_false_iff]
    exact ⟨decide_eq_false (by omega), decide_eq_false (by omega)⟩
  · have : (1000 : Int) ≤ (2 ^ 63 - 1) / (n : Int) := by
      rw [Int.le_ediv_iff_mul_le (by omega)]
      omega
    omega
  · unfold PySem.Builtin.Str.tooLong
    rw [Int.toNat_natCast]
    exact decide_eq_false (by omega)
theorem sorted_strs {x : D} {ys : List Str} (e : srcD M x = some (ys.map D.str)) (hl : ys.length ≤ sizeLine) (q : Q (.lst ((sortS ys).map D.str)) M) : sortedR [x] M Q :=
  ⟨Str, ys, D.str, PyData.str, e, ⟨fun y _ => .str y, alike_strs _, sortable_strs _, hl, fun y _ => Nat.zero_le _⟩, q⟩
theorem srcD_cell {ds : List D} {k : Nat} (e : M[k]? = some (.lst ds)) : srcD M (.ref k) = some ds := by
  show (match M[k]? with | some (.lst ds) => some ds | some (.dn kvs) => some (kvs.map fun (p : NestedKey × D) => kD p.1) | _ => none) = _
  rw [e]
end
theorem sortS_mem {ks : List Str} {k : Str} : k ∈ sortS ks ↔ k ∈ ks := (List.mergeSort_perm _ _).mem_iff
theorem sortS_len (ks : List Str) : (sortS ks).length = ks.length := (List.mergeSort_perm _ _).length_eq
theorem sortS_pair (ks : List Str) : (sortS ks).Pairwise fun a b => leS a b = true := List.pairwise_mergeSort leS_trans leS_total ks
theorem sortS_nodup {ks : List Str} (h : ks.Nodup) : (sortS ks).Nodup := (List.mergeSort_perm _ _).nodup_iff.mpr h
end DL

set_option Elab.async false
set_option linter.all false
set_option maxRecDepth 100000
set_option maxHeartbeats 2000000
/-! DLObj: list + list, a text unpacked, instances: their attributes, their making, their methods. -/
namespace DL
open PySem L2
open PyProof.Rows hiding St signs inR

/-! ### a text unpacked -/
section
variable {prog : Program} {w : World} {A : Around} {E : Value → Shared → Prop}
theorem draw_walk {I : Addr} {fp : List Addr} {n : Nat} {P : Nat → Value → Prop} {St : Nat → Heap → Prop} (W : Walks prog w A I fp [I] n P St) : ∀ (m i : Nat) (s : Shared) (Q : List Value → Shared → Prop), i + m ≤ n → St i s.heap →
    (∀ us h' tk, us.length = m → (∀ j u, us[j]? = some u → P (i + j) u) → St (i + m) h' → (∀ b o, b ≠ I → s.heap.get? b = some o → h'.get? b = some o) → Q us { s with heap := h', toks := tk }) → wpAny (model prog w) A (draw (.ref I) m) Q E s
  | 0, i, s, Q, _, st, hQ => by
    show wpAny _ _ (pure []) Q E s
    exact wpAny_pure (hQ [] s.heap s.toks rfl (fun j u e => by simp at e) st fun _ _ _ e => e)
  | m + 1, i, s, Q, hle, st, hQ => by
    show wpAny _ _ (pyNext (.ref I) >>= _) Q E s
    refine wpAny_bind (W.item i s _ _ (by omega) st fun v h1 tk1 hv st1 k1 => ?_)
    refine wpAny_bind (wpAny_holding (draw_walk W m (i + 1) _ _ (by omega) st1 fun us h2 tk2 hl hp st2 k2 => wpAny_pure ?_))
    refine hQ (v :: us) h2 tk2 (by rw [List.length_cons, hl]) (fun j u e => ?_) (by rw [show i + (m + 1) = i + 1 + m by omega]; exact st2) fun b o hb e => k2 b o hb (k1 b o (by simpa using hb) e)
    cases j with
    | zero =>
      simp at e
      subst e
      exact hv
    | succ j =>
      rw [List.getElem?_cons_succ] at e
      have := hp j u e
      rw [show i + (j + 1) = i + 1 + j by omega]
      exact this
end
section
variable {X : Cx} {pos : Pos}
theorem unpack_text {s : Shared} {pins : List (Addr × Obj)} {σ : St} {H : Hp} {x : Str} {t : Tok} {Q : List Value → Shared → Prop} (hc : X.calm = true) (I : Inv X pins σ H s)
    (hQ : ∀ us s', Inv X pins σ H s' → Vals ((signs x).map V.str) us → Q us s') : wpAny (model X.prog X.w) X.A (unpackItems (.str x t) x.cps.size none) Q X.xe s := by
  unfold unpackItems notIterableAtAll
  refine wpAny_bind (wpAny_bind (wpAny_specialOf (typeIs_str _ _ _) F.slot_str_iter.lookup (wpAny_pure ?_)))
  simp only [Bool.false_eq_true, if_false]
  refine wpAny_bind (wpAny_holding (wpAny_pyIter_str fun o St W st => ?_))
  have W' := W X.A (I.ok.hd hc)
  refine wpAny_bind (wpAny_holding (draw_walk W' x.cps.size 0 _ _ (by omega) st fun us h1 tk1 hl hp st1 k1 => ?_))
  rw [if_neg (by omega)]
  refine wpAny_bind (wpAny_holding (W'.done _ _ _ (by rw [Nat.zero_add] at st1; exact st1) fun h2 tk2 k2 => ?_))
  simp only [Option.isSome_none, Bool.false_eq_true, if_false]
  refine wpAny_pure (hQ us { s with heap := h2, toks := tk2 } (I.kept fun b o e => ?_) (vals_of_idx _ _ ?_ fun j u e => ?_))
  · have hb : b ≠ s.heap.objs.size := Nat.ne_of_lt (Heap.lt_size e)
    exact k2 b o (by simpa using hb) (k1 b o hb (Heap.get?_push_of_some _ e))
  · rw [hl, List.length_map]
    simp [signs]
  · obtain ⟨c, u', ec, rfl⟩ := hp j u e
    rw [Nat.zero_add] at ec
    refine ⟨.str ⟨#[c]⟩, ?_, ⟨_, rfl⟩⟩
    have ec' : x.cps.toList[j]? = some c := by simpa using ec
    rw [List.getElem?_map]
    unfold signs
    rw [List.getElem?_map, ec']
    rfl
def gStr (n : Nat) (t : TGs) : TG := fun v σ H Q => ∃ x, v = .str x ∧ (signs x).length = n ∧ t ((signs x).map V.str) σ H Q
theorem pg_str {es : List Expr} {k : Nat} {t : TGs} {n : Nat} (hc : X.calm = true) (h : PGs X es t)
    (hn : (assignEach es X.env).length = n := by rfl) (hst : (assignEach es X.env).findIdx? (·.1) = none := by rfl) : PG X (.Tuple es k pos) (gStr n t) := by
  refine ⟨fun pins s σ H v u Q I r hw => ?_⟩
  obtain ⟨x, rfl, hl, hw⟩ := hw
  obtain ⟨tk, rfl⟩ := r
  have hn' : (assignEach es X.env).length = x.cps.size := by
    rw [hn, ← hl]
    simp [signs]
  rw [PyProof.Rows.assign_Tuple]
  refine wpAny_bind (wpAny_standAt ?_)
  unfold unpack
  rw [hn', hst]
  refine wpAny_bind (wpAny_holding (unpack_text hc I fun us s' I' rv => ?_))
  exact h.run pins s' σ H _ us Q I' rv hw
def dgStr (n : Nat) (t : DTGs) : DTG := fun d ρ M Q => match d with | .str x => (signs x).length = n ∧ t ((signs x).map D.str) ρ M Q | d => dgSeq n t d ρ M Q
theorem dg_str {es : List Expr} {k n : Nat} {tg : DTGs} {pos : Pos} (hc : X.calm = true) (h : DGs X es tg) (hn : (assignEach es X.env).length = n := by rfl) (hst : (assignEach es X.env).findIdx? (·.1) = none := by rfl) : DG X (.Tuple es k pos) (dgStr n tg) := by
  refine pgM (pgOr (pg_str hc h hn hst) (dg_seq hc h hn hst)) fun v σ H Q ⟨w, ρ, M, d, Q', R, r, h, kk⟩ => ?_
  unfold dgStr at h
  split at h
  · rename_i x
    cases r
    exact .inl ⟨x, rfl, h.1, w, ρ, M, _, Q', R, strs_rel _, h.2, kk⟩
  · exact .inr ⟨w, ρ, M, d, Q', R, r, h, kk⟩

/-! ### list + list: a new one, that stays as it is -/
def addLR : DR2 := fun x y M Q => match viewL M x, viewL M y with
  | some ds, some es => ds.length + es.length ≤ sizeLine ∧ Q (.lst (ds ++ es)) M
  | _, _ => False
theorem ox_addL : OpX X (binaryOp .Add) addLR := by
  intro pins s σ H x y v u Q I rx ry ⟨w, M, dx, dy, Q', R, r1, r2, q, k⟩
  unfold addLR at q
  split at q
  · rename_i ds es e1 e2
    obtain ⟨a, vs, rfl, g1, l1⟩ := viewL_at R r1 e1
    obtain ⟨b, us, rfl, g2, l2⟩ := viewL_at R r2 e2
    cases rx
    cases ry
    obtain ⟨its, rv, ⟨o, n, ho, hc, _, hd⟩, _⟩ := I.list g1
    obtain ⟨its2, rv2, ⟨o2, n2, ho2, hc2, _, hd2⟩, _⟩ := I.list g2
    obtain ⟨cls, dd, data, sl⟩ := o
    obtain ⟨cls2, dd2, data2, sl2⟩ := o2
    simp only at hc hd hc2 hd2
    subst hc hd hc2 hd2
    have hz : its.length + its2.length ≤ sizeLine := by rw [← rv.length, ← rv2.length, ← l1.1, ← l2.1]; exact q.1
    have e : its.toArray ++ its2.toArray = (its ++ its2).toArray := by simp
    refine concat_meets ⟨_, ho, rfl⟩ ⟨_, ho2, rfl⟩ noFill_list_add seq_list_add PySem.F.slot_list_add PySem.F.entry_list_add (PySem.F.args_list_add_2 _ _) (list_addW a b its.toArray its2.toArray n n2 dd dd2 sl sl2 (by simpa using hz)) ⟨ho, ho2, ?_⟩
    rw [e]
    have hf : H s.heap.objs.size = none := I.hok.fresh (Nat.le_refl _)
    refine ⟨.ref s.heap.objs.size, upd H s.heap.objs.size (.lst (vs ++ us)), I.laid (t' := s.toks) (fun b o e => Heap.get?_push_of_some _ e) (Nat.le_refl _) ⟨by rw [List.length_append, ← l1.1, ← l2.1]; exact q.1, its ++ its2, 0, rv.append rv2, Heap.get?_push_size _ rfl⟩, rfl,
      k _ M q.2 _ _ _ (Wd.froz_le (R.nF hf)) (R.froz hf) (frozL R (l1.append l2) hf)⟩
  · exact q.elim

/-! ### instances -/
theorem RM.extra {b : Bg} {w : Wd} {M : Store} {H : Hp} (R : RM b w M H) {p : Addr} {o : HO} (h : H p = none) : RM b w M (upd H p o) := by
  refine ⟨fun a u e => ?_, R.len, R.nd, fun n a m e1 e2 => ?_, fun q hq => ?_⟩
  · have := R.sub a u e
    rw [upd_ne (ne_of_none this h)]
    exact this
  · obtain ⟨f, u, e3, c⟩ := R.cell n a m e1 e2
    exact ⟨f, u, by rw [upd_ne (ne_of_none e3 h)]; exact e3, c⟩
  · obtain ⟨e1, e2, e3⟩ := R.fr q hq
    exact ⟨by rw [upd_ne (ne_of_none e1 h)]; exact e1, e2, e3⟩
variable {C : Addr} {f : Str} {e o value : Expr} {te to tv : DTE} {p2 : Pos}
/-- e.f -/
def dFld (C : Addr) (f : Str) (te : DTE) : DTE := fun ρ M Q => te ρ M fun x M1 => ∃ k fs d, x = .ref k ∧ M1[k]? = some (.ins C fs) ∧ fs.lookup f = some d ∧ Q d M1
theorem lookup_rel {R : D → V → Prop} : ∀ {ds : List (Str × D)} {fs : List (Str × V)} {f : Str} {d : D}, ds.map (·.1) = fs.map (·.1) → (∀ (i : Nat) (d : Str × D) (v : Str × V), ds[i]? = some d → fs[i]? = some v → R d.2 v.2) → ds.lookup f = some d → ∃ v, fs.lookup f = some v ∧ R d v
  | [], _, _, _, _, _, e => by cases e
  | _ :: _, [], _, _, h, _, _ => by cases h
  | (g, x) :: ds, (g', y) :: fs, f, d, h, q, e => by
    simp only [List.map_cons, List.cons.injEq] at h
    obtain ⟨rfl, h⟩ := h
    rw [List.lookup_cons] at e ⊢
    split at e
    · rename_i hb
      cases e
      exact ⟨y, rfl, q 0 _ _ rfl rfl⟩
    · rename_i hb
      exact lookup_rel h (fun i d v e1 e2 => q (i + 1) d v e1 e2) e
theorem lookup_no {ds : List (Str × D)} {fs : List (Str × V)} {f : Str} (h : ds.map (·.1) = fs.map (·.1)) (e : ds.lookup f = none) : fs.lookup f = none := by
  rw [List.lookup_eq_none_iff] at e ⊢
  intro p hp
  have : p.1 ∈ ds.map (·.1) := by rw [h]; exact List.mem_map.mpr ⟨p, hp, rfl⟩
  obtain ⟨d, hd, ed⟩ := List.mem_map.mp this
  rw [← ed]
  exact e d hd
theorem ins_at {b : Bg} {w : Wd} {M : Store} {H : Hp} {k : Nat} {v : V} {fs : List (Str × D)} (R : RM b w M H) (r : Rel b w (.ref k) v) (e : M[k]? = some (.ins C fs)) : ∃ a dx vs, v = .ref a ∧ w.as[k]? = some a ∧ H a = some (.ins C dx vs) ∧ fs.map (·.1) = vs.map (·.1) ∧
    ∀ (i : Nat) (d : Str × D) (v : Str × V), fs[i]? = some d → vs[i]? = some v → Rel b w d.2 v.2 := by
  cases r with
  | ref ea =>
    obtain ⟨_, u, eu, c⟩ := R.cell _ _ _ ea e
    cases c with
    | ins h q => exact ⟨_, _, _, rfl, ea, eu, h, q⟩
theorem de_fld (c : Cls X.K C) (n : NoAttr X.K C f) (he : DE X e te) (hb : attributeBase e f X.env (eval e X.env) = eval e X.env := by rfl) : DE X (.Attribute e f pos) (dFld C f te) := by
  refine peM (pe_fld he hb) fun σ H Q ⟨w, ρ, M, Q', R, h, kk⟩ => ?_
  refine ⟨w, ρ, M, _, R, h, fun x M1 h1 w1 v1 H1 l1 R1 r1 => ?_⟩
  obtain ⟨k, fs, d, rfl, e1, e2, q⟩ := h1
  obtain ⟨a, dx, vs, rfl, _, eH, hk, hq⟩ := ins_at R1.m r1 e1
  obtain ⟨v, ev, rv⟩ := lookup_rel hk hq e2
  exact ⟨a, C, dx, vs, v, rfl, eH, c, n, ev, kk d M1 q w1 v H1 l1 R1 rv⟩
def putD (f : Str) (v : D) : List (Str × D) → List (Str × D)
  | [] => [(f, v)]
  | (g, x) :: r => if g = f then (g, v) :: r else (g, x) :: putD f v r
theorem put_rel {R : D → V → Prop} {f : Str} {d : D} {v : V} (r : R d v) : ∀ {ds : List (Str × D)} {fs : List (Str × V)}, ds.map (·.1) = fs.map (·.1) → (∀ (i : Nat) (d : Str × D) (v : Str × V), ds[i]? = some d → fs[i]? = some v → R d.2 v.2) →
    (putD f d ds).map (·.1) = (putF f v fs).map (·.1) ∧ ∀ (i : Nat) (x : Str × D) (y : Str × V), (putD f d ds)[i]? = some x → (putF f v fs)[i]? = some y → R x.2 y.2
  | [], [], _, _ => ⟨rfl, fun i x y e1 e2 => by
      cases i with
      | zero => cases e1; cases e2; exact r
      | succ i => simp [putD] at e1⟩
  | [], _ :: _, h, _ => by cases h
  | _ :: _, [], h, _ => by cases h
  | (g, x) :: ds, (g', y) :: fs, h, q => by
    simp only [List.map_cons, List.cons.injEq] at h
    obtain ⟨rfl, h⟩ := h
    unfold putD putF
    by_cases e : g = f
    · rw [if_pos e, if_pos e]
      refine ⟨by simp [h], fun i a b e1 e2 => ?_⟩
      cases i with
      | zero => cases e1; cases e2; exact r
      | succ i => exact q (i + 1) a b e1 e2
    · rw [if_neg e, if_neg e]
      obtain ⟨h1, h2⟩ := put_rel (f := f) r h fun i d v e1 e2 => q (i + 1) d v e1 e2
      refine ⟨by simp [h1], fun i a b e1 e2 => ?_⟩
      cases i with
      | zero => cases e1; cases e2; exact q 0 _ _ rfl rfl
      | succ i => exact h2 i a b e1 e2
/-- o.f = value -/
def dSetF (C : Addr) (f : Str) (to tv : DTE) : DTS := fun D ρ M => tv ρ M fun y M1 => to ρ M1 fun x M2 => ∃ k fs, x = .ref k ∧ M2[k]? = some (.ins C fs) ∧ fs.length < 1000 ∧ D.nx ρ (M2.set k (.ins C (putD f y fs)))
theorem ds_fld (c : Cls X.K C) (n : NoAttr X.K C f) (ho : DE X o to) (hv : DE X value tv) (hs : swapsWith value (some (.Attribute o f p2)) pos.line X.env = pure false := by rfl) : DS X (.Assign [.Attribute o f p2] value pos) (dSetF C f to tv) := by
  refine psM (ps_fld ho hv hs) fun D σ H ⟨w, ρ, M, D', R, h, E⟩ => ?_
  refine ⟨w, ρ, M, _, R, h, fun y M1 h1 w1 v1 H1 l1 R1 r1 => ?_⟩
  refine ⟨w1, ρ, M1, _, R1, h1, fun x M2 h2 w2 v2 H2 l2 R2 r2 => ?_⟩
  obtain ⟨k, fs, rfl, e1, hl, q⟩ := h2
  obtain ⟨a, dx, vs, rfl, ea, eH, hk, hq⟩ := ins_at R2.m r2 e1
  have hl' : vs.length < 1000 := by
    have := congrArg List.length hk
    simp at this
    omega
  obtain ⟨p1, p2⟩ := put_rel (R := Rel (bgX X) w2) (f := f) (r1.mono l2) hk hq
  exact ⟨a, C, dx, vs, rfl, eH, c, n, hl', E.nx ρ _ q w2 σ _ (l1.trans l2) ⟨R2.m.write ea (.ins p1 p2), R2.e⟩⟩
/-- C(): a new instance, then __init__ -/
def dMake0 (C : Addr) (sp : DSp) : DTE := fun _ M Q => sp [.ref M.length] (M ++ [.ins C []]) fun d M' => d = .non ∧ Q (.ref M.length) M'
theorem de_make0 {x : Str} {k : Nat} {ps : List Str} {sp : DSp} {g : Addr} {fd : FuncData} {p pos : Pos} (Mx : Mk X.K C g) (F : FnOk X.prog X.w X.K X.mg X.base CX0 k g fd ps (toSp (bgX X) sp)) (hb : Binds X.K fd ps []) (hr : Room (k + 1) X.A) (hg : Gl X x) (hm : X.mg x = some (.ref C))
    (hdb : (x == ("__debug__" : Str)) = false := by decide) : DE X (.Call (.Name x p) [] [] pos) (dMake0 C sp) := by
  refine peM (pe_make0 (E := E0) Mx F hr hg hm hb .nil pass0 hdb) fun σ H Q ⟨w, ρ, M, Q', R, h, kk⟩ => ?_
  intro x dx hx hdx hne
  have R1 := R.m.extra (o := .own x) hdx
  have hx1 : upd H dx (.own x) x = none := by rw [upd_ne (Ne.symm hne)]; exact hx
  have R2 := R1.put (m := .ins C []) (o := .ins C dx []) hx1 (.ins rfl fun i d v e => by simp at e)
  show toSp (bgX X) sp (V.ref x :: ([] ++ [])) _ _ _
  refine ⟨w.put x, [D.ref M.length], M ++ [MO.ins C []], fun d M' => d = .non ∧ Q' (.ref M.length) M', R2, .cons (putR R.m) .nil, h, fun d M' q w' v H' l R' r => ?_⟩
  obtain ⟨rfl, q⟩ := q
  cases r
  refine ⟨rfl, kk _ M' q w' _ H' (Wd.put_le.trans l) ⟨R', (R.e.mono Wd.put_le).mono l⟩ ((putR R.m).mono l)⟩
/-- o.m(..), m a def of the class -/
def dMethO (C : Addr) (m : Str) (sp : DSp) (to : DTE) (tr : DTA) : DTE := fun ρ M Q => to ρ M fun x M1 => (∃ k fs, x = .ref k ∧ M1[k]? = some (.ins C fs) ∧ fs.lookup m = none) ∧ tr ρ M1 fun xs M2 => sp (x :: xs) M2 Q
theorem de_methO {m : Str} {k : Nat} {ps : List Str} {sp : DSp} {g : Addr} {fd : FuncData} {es : List Expr} {tr : DTA} {apos pos : Pos} {pl : Sem Bool} (c : Cls X.K C) (hm : Meth X.K C m g) (F : FnOk X.prog X.w X.K X.mg X.base CX0 k g fd ps (toSp (bgX X) sp)) (hb : Binds X.K fd ps []) (hr : Room k X.A)
    (ho : DE X o to) (ha : DA X (e :: es) tr) (hst : starEach (e :: es) X.env = (false, eval e X.env) :: starEach es X.env := by rfl) (hpl : (backTo pos (starEach es X.env)).any (·.1) = false := by rfl)
    (ht : eval (.Call (.Attribute o m apos) (e :: es) [] pos) X.env = (do
      let ov ← eval o X.env
      standAt apos.atName
      let (f, first) ← holding [ov] (getMethod ov m pl)
      callWith pos f first (backTo pos (starEach (e :: es) X.env)) (backToKw pos (keywordEach [] X.env))) := by rfl) : DE X (.Call (.Attribute o m apos) (e :: es) [] pos) (dMethO C m sp to tr) := by
  refine peM (pe_meth (E := E0) ho c hm F hr hb .nil pass0 ha hst hpl ht) fun σ H Q ⟨w, ρ, M, Q', R, h, kk⟩ => ?_
  refine ⟨w, ρ, M, _, R, h, fun x M1 h1 w1 v1 H1 l1 R1 r1 => ?_⟩
  obtain ⟨⟨k, fs, rfl, e1, e2⟩, h1⟩ := h1
  obtain ⟨a, dx, vs, rfl, ea, eH, hk, hq⟩ := ins_at R1.m r1 e1
  refine ⟨a, dx, vs, rfl, eH, lookup_no hk e2, w1, ρ, M1, _, R1, h1, fun xs M2 h2 w2 us H2 l2 R2 r2 => ?_⟩
  show toSp _ sp (V.ref a :: (us ++ [])) H2 Q E0
  rw [List.append_nil]
  exact ⟨w2, _, M2, Q', R2.m, .cons (r1.mono l2) r2, h2, fun d M' q w' v' H' l' R' r' => kk d M' q w' v' H' ((l1.trans l2).trans l') ⟨R', R2.e.mono l'⟩ r'⟩
/-- the method m of the class at C keeps this promise | its __init__ does -/
def MDef (P : Program) (w : World) (K : PySem.W.Frag) (mg : Str → Option Value) (base : Heap) (C : Addr) (m : Str) (k : Nat) (ps : List Str) (sp : DSp) : Prop := ∃ g fd, Meth K C m g ∧ Binds K fd ps [] ∧ FnOk P w K mg base CX0 k g fd ps (toSp ⟨P, w, K⟩ sp)
def IDef (P : Program) (w : World) (K : PySem.W.Frag) (mg : Str → Option Value) (base : Heap) (C : Addr) (k : Nat) (ps : List Str) (sp : DSp) : Prop := ∃ g fd, Mk K C g ∧ Binds K fd ps [] ∧ FnOk P w K mg base CX0 k g fd ps (toSp ⟨P, w, K⟩ sp)
theorem de_make0X {x : Str} {k : Nat} {ps : List Str} {sp : DSp} {p pos : Pos} (J : IDef X.prog X.w X.K X.mg X.base C k ps sp) (hr : Room (k + 1) X.A) (hg : Gl X x) (hm : X.mg x = some (.ref C)) (hdb : (x == ("__debug__" : Str)) = false := by decide) : DE X (.Call (.Name x p) [] [] pos) (dMake0 C sp) := by
  obtain ⟨g, fd, Mx, hb, F⟩ := J
  exact de_make0 Mx F hb hr hg hm hdb
theorem de_methX {m : Str} {k : Nat} {ps : List Str} {sp : DSp} {es : List Expr} {tr : DTA} {apos pos : Pos} {pl : Sem Bool} (c : Cls X.K C) (J : MDef X.prog X.w X.K X.mg X.base C m k ps sp) (hr : Room k X.A)
    (ho : DE X o to) (ha : DA X (e :: es) tr) (hst : starEach (e :: es) X.env = (false, eval e X.env) :: starEach es X.env := by rfl) (hpl : (backTo pos (starEach es X.env)).any (·.1) = false := by rfl)
    (ht : eval (.Call (.Attribute o m apos) (e :: es) [] pos) X.env = (do
      let ov ← eval o X.env
      standAt apos.atName
      let (f, first) ← holding [ov] (getMethod ov m pl)
      callWith pos f first (backTo pos (starEach (e :: es) X.env)) (backToKw pos (keywordEach [] X.env))) := by rfl) : DE X (.Call (.Attribute o m apos) (e :: es) [] pos) (dMethO C m sp to tr) := by
  obtain ⟨g, fd, hm, hb, F⟩ := J
  exact de_methO c hm F hb hr ho ha hst hpl ht
/-- a op b op' c -/
def dChain (dr dr' : DR2) (ta tb tc : DTE) : DTE := fun ρ M Q => ta ρ M fun x M1 => tb ρ M1 fun y M2 => dr x y M2 fun z M3 => match z with | .bl true => tc ρ M3 fun u M4 => dr' y u M4 Q | .bl false => Q (.bl false) M3 | _ => False
theorem de_chainX {op op' : CmpOp} {dr dr' : DR2} {a b c : Expr} {ta tb tc : DTE} {pos : Pos} (ho : OpX X (compareOp op) dr) (ho' : OpX X (compareOp op') dr') (ha : DE X a ta) (hb : DE X b tb) (hc : DE X c tc) (hm : lastMarks [op, op'] [b, c] = false := by rfl) :
    DE X (.Compare a [op, op'] [b, c] pos) (dChain dr dr' ta tb tc) := de_chain ho ho' rX_d rX_d ha hb hc hm
end
end DL

set_option Elab.async false
set_option linter.all false
set_option maxRecDepth 100000
set_option maxHeartbeats 2000000
/-! DLIter: more of what a for walks: the keys of a frozen dict of nested keys; enumerate of a tuple. -/
namespace DL
open PySem L2
open PyProof.Rows hiding St

/-! ### the keys of a dict of nested keys that stays as it is -/
def Itn (b : Bg) (d : Addr) (o : Obj) (xs : List (NestedKey × Addr × Value)) : It :=
  ⟨fun i H => H d = some (dnO b d o xs) ∧ i < xs.length, fun i H x H' => H' = H ∧ ∃ k q u, xs[i]? = some (k, q, u) ∧ x = .ref q, fun i H => H d = some (dnO b d o xs) ∧ xs.length ≤ i⟩
theorem inv_dn {X : Cx} {pins : List (Addr × Obj)} {σ : St} {H : Hp} {s : Shared} {d : Addr} {o : Obj} {xs : List (NestedKey × Addr × Value)} (I : Inv X pins σ H s) (h : H d = some (dnO (bgX X) d o xs)) : dnP (bgX X) d o xs s.heap := (I.hok d _ h).1
theorem turn_keysN {b : Bg} {P : Program} {w : World} {K : PySem.W.Frag} {tg : Expr} {d : Addr} {o : Obj} {es : Array DictEntry} {ep : Nat} {xs : List (NestedKey × Addr × Value)} (hb : b = ⟨P, w, K⟩) (it : Addr) (hod : o.data = .dict es ep) :
    Turn P w K tg (Itn b d o xs) [it] it (fun i h => h.IsKeyIter it d i xs.length ep) where
  mem := by simp
  obj := fun i h st b hb => by
    have e : b = it := by simpa using hb
    subst e
    obtain ⟨oi, e, c, dd⟩ := st
    exact ⟨oi, e, fun v z => by rw [dd] at z; cases z⟩
  keep := fun i h h' st k => st.at fun oi e => k it (by simp) oi e
  item := by
    intro X hP hw hK hc i pins s σ H E I hf st hg
    subst hb hP hw hK
    obtain ⟨hd, hi⟩ := hg
    obtain ⟨f0, f1, f2, f3, f4, f5⟩ := hf it (by simp)
    obtain ⟨hgd, es', ep', hx, hdt, hsz, _, _, _, _⟩ := inv_dn I hd
    obtain ⟨rfl, rfl⟩ := dict_ep hod hdt
    have hn : es'.size = xs.length := by rw [← Array.length_toList, hsz, List.length_map]
    have hen : es'[i]? = some (entryOfKey (nestedKind X.prog X.w) xs[i]) := by
      rw [← Array.getElem?_toList, hsz, List.getElem?_map, List.getElem?_eq_getElem hi]; rfl
    refine next_key_item st hgd hdt hn hen fun h' st' sb => ?_
    have I1 : Inv X pins σ H { s with heap := h' } := I.turned (t' := s.toks) (fun b ob hb e => (sb.2 b hb).trans e) f0 f1 f3 f4 f5
    obtain ⟨oi, e, c, dd⟩ := id st'
    exact ⟨.ref xs[i].2.1, rfl, go_of (s := { s with heap := h' }) e c dd (by decide) ⟨.ref xs[i].2.1, H, I1, rfl, ⟨rfl, xs[i].1, xs[i].2.1, xs[i].2.2, List.getElem?_eq_getElem hi, rfl⟩, st', fun b hb => (hf b hb).1⟩⟩
  done := by
    intro X hP hw hK hc i pins s σ H E I hf st hg
    subst hb hP hw hK
    obtain ⟨hd, hi⟩ := hg
    obtain ⟨f0, f1, f2, f3, f4, f5⟩ := hf it (by simp)
    obtain ⟨hgd, es', ep', hx, hdt, hsz, _, _, _, _⟩ := inv_dn I hd
    obtain ⟨rfl, rfl⟩ := dict_ep hod hdt
    have hn : es'.size = xs.length := by rw [← Array.length_toList, hsz, List.length_map]
    exact next_key_end (I.ok.hd hc) st hgd hdt hn hi fun h' eb => ⟨rfl, I.turned (t' := s.toks) (fun b ob hb e => eb b ob hb e) f0 f1 f3 f4 f5⟩
  self := fun A i s Q E st h => by
    refine wpAny_pyIter_slot st.typeIs F.slot_dict_keyiterator_iter (wpAny_call_entry F.slot_dict_keyiterator_iter st.typeIs F.entry_dict_keyiterator_iter ?_ (F.args_dict_keyiterator_iter_1 _))
    show wpAny _ _ (ret (.ref it)) _ _ s
    exact wpAny_pure ⟨_, rfl, "dict_keyiterator", _, st.typeIs, F.slot_dict_keyiterator_next.lookup, h⟩
section
variable {X : Cx} {tg e e2 : Expr} {te : DTE} {ta : DTA} {pos p tpos : Pos}
/-- for k in a frozen dict of nested keys -/
def dKeysN (te : DTE) : DTI := fun ρ M R => te ρ M fun x M1 => match x with
  | .dn kvs => R (kvs.map fun p => kD p.1) (fun _ => True) M1
  | _ => False
theorem jok_keysN {b : Bg} {w : Wd} {d : Addr} {o : Obj} {xs : List (NestedKey × Addr × Value)} {ds : List (NestedKey × D)} (h : w.F d = some (dnO b d o xs)) (hk : ds.map (·.1) = xs.map (·.1))
    (r : ∀ (i : Nat) (x : NestedKey × Addr × Value), xs[i]? = some x → Rel b w (kD x.1) (.ref x.2.1)) : JOk b w (Itn b d o xs) (ds.map fun p => kD p.1) (fun _ => True) := by
  intro w' M' H' l R _
  have hd := R.sub _ _ (l.F _ _ h)
  have hl : ds.length = xs.length := by have := congrArg List.length hk; simpa using this
  refine ⟨fun i y e => ?_, ⟨hd, by rw [List.length_map, hl]; exact Nat.le_refl _⟩⟩
  have e' : ((ds.map (·.1)).map kD)[i]? = some y := by rw [List.map_map]; exact e
  rw [hk, List.map_map, List.getElem?_map] at e'
  obtain ⟨x, ex, rfl⟩ := Option.map_eq_some_iff.mp e'
  refine ⟨⟨hd, (List.getElem?_eq_some_iff.mp ex).1⟩, fun v H'' ⟨eH, k, q, u, ek, ev⟩ => ?_⟩
  subst eH; subst ev
  rw [ex] at ek
  cases ek
  exact ⟨w', Wd.Le.refl w', R, (r i _ ex).mono0 l⟩
theorem di_keysN (he : DE X e te) : DI X tg e (dKeysN te) := by
  refine ⟨fun pins s σ H R I ⟨w, ρ, M, R', Rs, h, k⟩ => ?_⟩
  refine thn (he.run pins s σ H (fun v H1 => ∃ w1 M1 x, w.Le w1 ∧ RS (bgX X) w1 ρ M1 σ H1 ∧ Rel (bgX X) w1 x v ∧ (match x with
    | .dn kvs => R' (kvs.map fun p => kD p.1) (fun _ => True) M1
    | _ => False)) I ⟨w, ρ, M, _, Rs, h, fun x M1 h1 w1 v1 H1 l1 R1 r1 => ⟨w1, M1, x, l1, R1, r1, h1⟩⟩) fun v s1 ⟨xv, H1, I1, rx, w1, M1, x, l1, R1, r1, q⟩ => ?_
  split at q
  · rename_i kvs
    cases r1 with
    | dn hF hk rv rk rd =>
      rename_i a ob xs f
      cases rx
      have hd := R1.m.sub _ _ hF
      obtain ⟨hgd, es, ep, hx, hdt, hsz, _, _, hs, _⟩ := inv_dn I1 hd
      have hn : es.size = xs.length := by rw [← Array.length_toList, hsz, List.length_map]
      refine iter_keys hs hgd hx hdt (pi_one (tk := s1.toks) I1 _ (turn_keysN (b := bgX X) rfl _ hdt) ⟨_, Heap.get?_push_size _ rfl, rfl, ?_⟩ (k _ _ M1 q w1 _ H1 l1 R1 (jok_keysN hF hk rk)))
      rw [hn] <;> rfl
  · exact q.elim
end

/-! ### enumerate of a tuple -/
set_option maxHeartbeats 4000000 in
theorem meets_enumerate_new1 {v : Value} {o : Obj} {H : Heap → Prop} (B : Begins v o H) :
    Meets (Builtin.«enumerate.__new__» ⟨[.type "enumerate", v], []⟩) (fun _ R s => H s.heap ∧
      R (.ok (.ret (.ref (s.heap.push o).objs.size))) { s with heap := (s.heap.push o).push { cls := .type "enumerate", data := .fields #[.none, .bool false, .ref s.heap.objs.size, rawInt 0, .none, .none] } }) :=
  .of_wp fun prog w A R s h => by
    obtain ⟨hp, g, d, tk, os⟩ := s; obtain ⟨h1, h⟩ := h
    have hsub := sub_enumerate
    have q1 : ∀ {A' : Around} {E : Value → Shared → Prop} {Q : Value → Shared → Prop}, Q (.ref hp.objs.size) ⟨hp.push o, g, d, tk, os⟩ → wpAny (model prog w) A' (pyIter v) Q E ⟨hp, g, d, tk, os⟩ :=
      fun q => B.iter prog w _ _ ⟨hp, g, d, tk, os⟩ _ h1 q
    wp_walk using q1
    refine wpAny_stack_any fun st => wpAny_pure ?_
    split
    · rename_i c _ _ _ _ _
      cases (c == Value.type "enumerate")
      · wp_walk using q1
        exact ⟨_, rfl, h⟩
      · wp_walk using q1
        exact ⟨_, rfl, h⟩
    · wp_walk using q1
      exact ⟨_, rfl, h⟩
theorem enum_begins1 {prog : Program} {w : World} {A : Around} {E : Value → Shared → Prop} {s : Shared} {v : Value} {o : Obj} {H : Heap → Prop} {Q : Value → Shared → Prop} (B : Begins v o H) (h1 : H s.heap)
    (h : ∀ h', IsEnum h' (s.heap.objs.size + 1) s.heap.objs.size 0 .none → h'.get? s.heap.objs.size = some o → h'.objs.size = s.heap.objs.size + 2 →
      (∀ b o, s.heap.get? b = some o → h'.get? b = some o) → Q (.ref (s.heap.objs.size + 1)) { s with heap := h' }) :
    wpAny (model prog w) A (call (.type "enumerate") [v]) Q E s := by
  refine callType_new F.called_enumerate (by decide) (F.typeCall_enumerate_1 _) (F.newCall_enumerate_1 _) (fun obj => F.args_object_init_2 obj _) F.entry_enumerate_new
    (meets_enumerate_new1 B) ⟨h1, ?_⟩
  have hz : (s.heap.push o).objs.size = s.heap.objs.size + 1 := Heap.size_push ..
  show _ ∧ _
  rw [hz]
  have he : IsEnum ((s.heap.push o).push { cls := .type "enumerate", data := .fields #[.none, .bool false, .ref s.heap.objs.size, rawInt 0, .none, .none] }) (s.heap.objs.size + 1) s.heap.objs.size 0 .none := by
    have := Heap.get?_push_size (s.heap.push o) (o := { cls := .type "enumerate", data := .fields #[.none, .bool false, .ref s.heap.objs.size, rawInt 0, .none, .none] }) rfl
    rw [hz] at this; exact this
  refine ⟨⟨_, he, rfl⟩, h _ he (Heap.get?_push_of_some _ (Heap.get?_push_size _ B.free)) (by rw [Heap.size_push, hz]) fun b o x => Heap.get?_push_of_some _ (Heap.get?_push_of_some _ x)⟩
def Iet (K : PySem.W.Frag) (a : Addr) : It :=
  ⟨fun i H => ∃ (xs : List V) (x : V), SqT K H a xs ∧ xs[i]? = some x, fun i H v H' => ∃ T x, v = .ref T ∧ H T = none ∧ H' = upd H T (.tup [.int (i : Nat), x]) ∧ ∀ xs, SqT K H a xs → xs[i]? = some x, fun i H => ∃ xs : List V, SqT K H a xs ∧ xs.length ≤ i⟩
theorem turn_enumT {P : Program} {w : World} {K : PySem.W.Frag} {elts : List Expr} {kk : Nat} {tpos : Pos} (a e it : Addr) :
    Turn P w K (.Tuple elts kk tpos) (Iet K a) [e, it] e (fun i h => (∃ old, IsEnum h e it ((i : Nat) : Int) old) ∧ h.IsTupleIter it a i ∧ e ≠ it ∧ a ≠ it ∧ a ≠ e) where
  mem := by simp
  obj := fun i h st b hb => by
    obtain ⟨⟨old, he⟩, ⟨o, ho, hc, hd⟩, _⟩ := st
    have e' : b = e ∨ b = it := by simpa using hb
    rcases e' with z | z
    · rw [z]; exact ⟨_, he, fun v q => nomatch q⟩
    · rw [z]; exact ⟨o, ho, fun v q => by rw [hd] at q; cases q⟩
  keep := fun i h h' st k => let ⟨⟨old, he⟩, hi, hne, hn2⟩ := st; ⟨⟨old, k e (by simp) _ he⟩, hi.at fun o q => k it (by simp) o q, hne, hn2⟩
  item := by
    intro X hP hw hK hc i pins s σ H E I hf st hg
    subst hP hw hK
    obtain ⟨⟨old, he⟩, hit, hne, hn2, hn3⟩ := st
    obtain ⟨xs, x, hq, hx⟩ := hg
    obtain ⟨its, rv, p, hz⟩ := I.tuple hq
    obtain ⟨u, hu, ru⟩ := rv.get hx
    have hel : e < s.heap.objs.size := Heap.lt_size he
    have hil : it < s.heap.objs.size := by obtain ⟨_, q, _⟩ := hit; exact Heap.lt_size q
    have p' : s.heap.IsTuple a its.toArray := p
    refine wpAny_pyNext_enum_itemD (Draws.tuple (A := X.A.in1) (I.ok.hd hc) it a hn2 its.toArray) he ⟨hit, p'⟩ (by have := (List.getElem?_eq_some_iff.mp hu).1; simpa using this) hne (by simp [hne, Ne.symm hn3]) fun y h' tk py ho hst hT hsz hk => ?_
    have ey : y = u := by
      have : its.toArray[i]? = some u := by simpa using hu
      rw [this] at py
      exact (Option.some.inj py).symm
    subst ey
    refine ⟨_, rfl, wpAny_letOwnedTupleGo_enum (s := { s with heap := h', toks := tk + 1 }) ho fun h'' he' sb => ?_⟩
    have hT2 : h''.get? s.heap.objs.size = some { cls := .type "tuple", data := .seq #[.int i tk, y] } := (sb.2 _ (Nat.ne_of_gt hel)).trans hT
    have new : ObjOk X.prog X.w (upd H s.heap.objs.size (.tup [.int (i : Nat), x])) h'' s.heap.objs.size (.tup [.int (i : Nat), x]) :=
      ⟨by show 2 ≤ sizeLine; decide, [.int i tk, y], .cons ⟨_, rfl⟩ (.cons ru .nil), ⟨_, hT2, rfl, _, rfl⟩⟩
    have I1 : Inv X pins σ (upd H s.heap.objs.size (.tup [.int (i : Nat), x])) { s with heap := h'', toks := tk + 1 } :=
      I.turnedNew (ch := [e, it]) (fun b ob hb q => (sb.2 b (fun z => hb (by simp [z]))).trans (hk b ob (fun z => hb (by simp [z])) (fun z => hb (by simp [z])) q)) hf (Nat.le_refl _) new
    refine ⟨.ref s.heap.objs.size, _, I1, rfl, ⟨_, x, rfl, I.hok.fresh (Nat.le_refl _), rfl, fun ys hy => by rw [I.tuple_inj hy hq]; exact hx⟩, ⟨⟨y, ?_⟩, hst.1.at fun o q => (sb.2 it (Ne.symm hne)).trans q, hne, hn2, hn3⟩, fun b hb => ?_⟩
    · have e1 : ((i + 1 : Nat) : Int) = (i : Int) + 1 := by omega
      rw [e1]; exact he'
    · have hb' : b < s.heap.objs.size := by
        have e' : b = e ∨ b = it := by simpa using hb
        rcases e' with z | z
        · rw [z]; exact hel
        · rw [z]; exact hil
      rw [upd_ne (Nat.ne_of_lt hb')]
      exact (hf b hb).1
  done := by
    intro X hP hw hK hc i pins s σ H E I hf st hg
    subst hP hw hK
    obtain ⟨⟨old, he⟩, hit, hne, hn2, hn3⟩ := st
    obtain ⟨xs, hq, hx⟩ := hg
    obtain ⟨its, rv, p, hz⟩ := I.tuple hq
    obtain ⟨f0, f1, f2, f3, f4, f5⟩ := hf it (by simp)
    have hl := rv.length
    have p' : s.heap.IsTuple a its.toArray := p
    have hD : ∀ hh, Draws X.prog X.w X.A.in1 it [it, a] its.toArray.size (fun _ _ => True) (fun j h => j = its.toArray.size ∧ h.IsTupleIter it a i ∧ h.IsTuple a its.toArray) := fun hh => by
      refine ⟨fun j h st => let ⟨o, ho, _⟩ := st.2.1; ⟨o, ho⟩, fun j h h' st hk => ⟨st.1, st.2.1.at fun o e => hk it (by simp) o e, st.2.2.at fun o e => hk a (by simp) o e⟩, fun j s Q E hj st hQ => ?_, fun s Q E st hE => ?_⟩
      · exact (Nat.lt_irrefl _ (st.1 ▸ hj)).elim
      · exact wpAny_nextOf_tuple_end hh st.2.1 st.2.2 (by simp; omega) hE
    exact wpAny_pyNext_enum_endD (hD (I.ok.hd hc)) he ⟨rfl, hit, p'⟩ fun h' eb => ⟨rfl, I.turned (t' := s.toks) (fun b o hb q => eb b o hb q) f0 f1 f3 f4 f5⟩
  self := fun A i s Q E st h => let ⟨⟨_, he⟩, _⟩ := st; wpAny_pyIter_enum he h

theorem jok_enumT {b : Bg} {w : Wd} {a : Addr} {ds : List D} (r : Rel b w (.tup ds) (.ref a)) : JOk b w (Iet b.K a) (enumD ds) (fun _ => True) := by
  intro w' M' H' l R _
  cases r.mono0 l with
  | tup s ll q =>
    have sq := sqT_mono R.sub s
    have rl : RelL b w' ds _ := ⟨ll, q⟩
    refine ⟨fun i d e => ?_, ⟨_, sq, ?_⟩⟩
    · rw [enumD, List.getElem?_mapIdx] at e
      obtain ⟨x1, e1, rfl⟩ := Option.map_eq_some_iff.mp e
      obtain ⟨v, ev, rv⟩ := rl.get e1
      refine ⟨⟨_, v, sq, ev⟩, fun z H'' ⟨T, x', ez, hT, eH, hx⟩ => ?_⟩
      subst ez; subst eH
      have h1 := hx _ sq
      rw [ev] at h1
      cases h1
      exact pairT R hT (.int _) rv
    · rw [enumD, List.length_mapIdx, ← rl.1]
      exact Nat.le_refl _
section
variable {X : Cx} {e : Expr} {ta : DTA} {pos p tpos : Pos}
def dEnumT (ta : DTA) : DTI := fun ρ M R => ta ρ M fun xs M1 => match xs with
  | [.tup ds] => R (enumD ds) (fun _ => True) M1
  | _ => False
theorem di_enumT {elts : List Expr} {kk : Nat} (hg : Gl X "enumerate") (hm : X.mg "enumerate" = none) (ha : DA X [e] ta) (hs : starEach [e] X.env = [(false, eval e X.env)] := by rfl) :
    DI X (.Tuple elts kk tpos) (.Call (.Name "enumerate" p) [e] [] pos) (dEnumT ta) := by
  refine ⟨fun pins s σ H R I ⟨w, ρ, M, R', Rs, h, k⟩ => ?_⟩
  refine Call_ (ld_blt I hg hm boot_enumerate (PyProof.Rows.callWith_type1 (thn (ha.run pos pins s σ H (fun vs H1 => ∃ w1 M1 xs, w.Le w1 ∧ RS (bgX X) w1 ρ M1 σ H1 ∧ RelL (bgX X) w1 xs vs ∧ (match xs with
    | [.tup ds] => R' (enumD ds) (fun _ => True) M1
    | _ => False)) I ⟨w, ρ, M, _, Rs, h, fun xs M1 h1 w1 vs H1 l1 R1 r1 => ⟨w1, M1, xs, l1, R1, r1, h1⟩⟩) fun us s1 ⟨vs, H1, I1, r1, w1, M1, xs, l1, R1, rl, q⟩ => ?_) hs rfl))
  split at q
  · rename_i ds
    obtain ⟨v, rfl, rv⟩ := rl.one
    have rv' := rv
    cases rv with
    | tup sq l rr =>
      rename_i a vs'
      cases r1 with
      | cons r rr =>
        cases rr
        cases r
        obtain ⟨its, rv, pl, hz⟩ := I1.tuple (sqT_mono R1.m.sub sq)
        have pl' : s1.heap.IsTuple a its.toArray := pl
        have hla : a < s1.heap.objs.size := by obtain ⟨_, q, _⟩ := id pl'; exact Heap.lt_size q
        refine enum_begins1 (begins_tuple a its.toArray) pl' fun h' he hit hsz hk => wpAny_pyIter_enum he ?_
        have I2 : Inv X pins σ H1 { s1 with heap := h' } := I1.kept (t' := s1.toks) hk
        refine ⟨s1.heap.objs.size + 1, [s1.heap.objs.size + 1, s1.heap.objs.size], _, _, H1, rfl, I2, turn_enumT a (s1.heap.objs.size + 1) s1.heap.objs.size, ⟨⟨.none, he⟩, ⟨_, hit, rfl, rfl⟩, Nat.succ_ne_self _, Nat.ne_of_lt hla, Nat.ne_of_lt (Nat.lt_succ_of_lt hla)⟩, fun b hb => ?_, k _ _ M1 q w1 _ H1 l1 R1 (jok_enumT rv')⟩
        have e' : b = s1.heap.objs.size + 1 ∨ b = s1.heap.objs.size := by simpa using hb
        have hle : s1.heap.objs.size ≤ b := by
          rcases e' with z | z
          · rw [z]; exact Nat.le_add_right _ _
          · rw [z]; exact Nat.le_refl _
        exact I1.fpOk hle (I1.hok.fresh hle)
  · exact q.elim
end
/-! ### < of data that are alike (tuples of texts ..) -/
theorem op_ltD {X : Cx} (hu : X.A.units + 64 < cLine) : OpR X (compareOp .Lt) (fun x y H Q => ∃ d e, Dp X.K H x d ∧ Dp X.K H y e ∧ PySem.W.alike d e = true ∧ d ≠ .none ∧ min d.depth e.depth ≤ 64 ∧ Q (.bl (PySem.W.dataLt d e)) H) := by
  intro pins s σ H x y v u Q I rx ry h
  obtain ⟨d, e, hd, he, al, hn, hm, q⟩ := h
  obtain ⟨as, r1⟩ := Dp.reads I d x v hd rx
  obtain ⟨bs, r2⟩ := Dp.reads I e y u he ry
  exact PySem.W.lt_data r1 r2 al hn (Nat.lt_of_le_of_lt (Nat.add_le_add_left hm _) hu) ⟨.bl _, H, I, rfl, q⟩
def ltDR : DR2 := fun x y M Q => ∃ p q, PyOf M x p ∧ PyOf M y q ∧ PySem.W.alike p q = true ∧ p ≠ .none ∧ min p.depth q.depth ≤ 64 ∧ Q (.bl (PySem.W.dataLt p q)) M
theorem ox_ltD {X : Cx} (hu : X.A.units + 64 < cLine) : OpX X (compareOp .Lt) ltDR := .of (op_ltD hu) fun w M H x y v u Q' Q R r1 r2 h k => by
  obtain ⟨p, q, h1, h2, s1, s2, s3, h⟩ := h
  exact ⟨p, q, h1.dp R p r1, h2.dp R q r2, s1, s2, s3, k _ M h w _ H (Wd.Le.refl w) R (.bl _)⟩
end DL

set_option Elab.async false
set_option linter.all false
set_option maxRecDepth 100000
set_option maxHeartbeats 4000000
/-! printed by gen.py: what each def does to the data -/
namespace K
open PySem L2 DL
open PyProof.Rows hiding St signs inR

def t_joined_once : DTS :=
    (dSeq (dAsg (dLstM dNil) (dgName 3))
    (dSeq (dAsg (dC (.int 0)) (dgName 4))
    (dSeq (dWhile (dB (dOp ltR (dVar 4) (dCB lenR (dCons (dVar 0) dNil))))
      (dIfS (dAnd (dB (dOp eqR (dOp ixR (dVar 0) (dVar 4)) (dVar 1))) (dAnd (dB (dOp ltR (dOp addR (dVar 4) (dC (.int 1))) (dCB lenR (dCons (dVar 0) dNil)))) (dB (dOp eqR (dOp ixR (dVar 0) (dOp addR (dVar 4) (dC (.int 1)))) (dVar 2)))))
        (dSeq (dDrop (dMeth "list" appendR (dVar 3) (dCons (dOp addR (dVar 1) (dVar 2)) dNil)))
        (dAug 4 (dC (.int 2)) iaddR))
        (dSeq (dDrop (dMeth "list" appendR (dVar 3) (dCons (dOp ixR (dVar 0) (dVar 4)) dNil)))
        (dAug 4 (dC (.int 1)) iaddR))))
    (dRet (dVar 3)))))

def t_pair_counts : DTS :=
    (dSeq (dAsg dNewN (dgName 3))
    (dSeq (dFor (dZip (dCons (dVar 0) (dCons (dVar 1) dNil))) (dgSeq 2 (dgCons (dgName 4) (dgCons (dgName 5) dgNil)))
      (dFor (dZip (dCons (dVar 4) (dCons (dSl (dVar 4) (dPart (dC (.int 1))) dNoPart) dNil))) (dgSeq 2 (dgCons (dgName 6) (dgCons (dgName 7) dgNil)))
        (dIfS (dB (dOp notInR (dOp addR (dVar 6) (dVar 7)) (dVar 2)))
          (dAsg (dOp addR (dMeth "dict" getOr (dVar 3) (dCons (dTup (dCons (dVar 6) (dCons (dVar 7) dNil))) (dCons (dC (.int 0)) dNil))) (dVar 5)) (dgSub (dVar 3) (dTup (dCons (dVar 6) (dCons (dVar 7) dNil)))))
          dNext)))
    (dRet (dVar 3))))

def t_chosen_pair : DTS :=
    (dSeq (dAsg (dC .non) (dgName 1))
    (dSeq (dAsg (dC (.int 0)) (dgName 2))
    (dSeq (dFor (dIter (dCB sortedR (dCons (dVar 0) dNil))) (dgName 3)
      (dIfS (dB (dOp gtR (dOp ixR (dVar 0) (dVar 3)) (dVar 2)))
        (dSeq (dAsg (dVar 3) (dgName 1))
        (dAsg (dOp ixR (dVar 0) (dVar 3)) (dgName 2)))
        dNext))
    (dRet (dVar 1)))))

def t_trained_steps (s_pair_counts : DSp) (s_chosen_pair : DSp) (s_joined_once : DSp) : DTS :=
    (dSeq (dAsg (dLc (dIter (dVar 0)) (.many [9, 10]) dYes (dCB listR (dCons (dVar 9) dNil)) [9, 10]) (dgName 2))
    (dSeq (dAsg (dLc (dIter (dVar 0)) (.many [9, 10]) dYes (dVar 10) [9, 10]) (dgName 3))
    (dSeq (dAsg dNewK (dgName 4))
    (dSeq (dAsg (dLstM dNil) (dgName 5))
    (dSeq (dFor (dRange1 (dCons (dVar 1) dNil)) (dgName 6)
      (dSeq (dAsg (dCall s_pair_counts (dCons (dVar 2) (dCons (dVar 3) (dCons (dVar 4) dNil)))) (dgName 7))
      (dSeq (dAsg (dCall s_chosen_pair (dCons (dVar 7) dNil)) (dgName 8))
      (dSeq (dDrop (dMeth "list" appendR (dVar 5) (dCons (dTup (dCons (dVar 8) (dCons (dVar 7) dNil))) dNil)))
      (dSeq (dIfS (dB (dOp isNR (dVar 8) (dC .non)))
        (dRet (dVar 5))
        dNext)
      (dSeq (dAsg (dC (.bl true)) (dgSub (dVar 4) (dOp addR (dOp ixR (dVar 8) (dC (.int 0))) (dOp ixR (dVar 8) (dC (.int 1))))))
      (dAsg (dLc (dIter (dVar 2)) (.one 11) dYes (dCall s_joined_once (dCons (dVar 11) (dCons (dOp ixR (dVar 8) (dC (.int 0))) (dCons (dOp ixR (dVar 8) (dC (.int 1))) dNil)))) [11]) (dgName 2))))))))
    (dRet (dVar 5)))))))

def t_train_joins (s_trained_steps : DSp) : DTS :=
    (dSeq (dAsg (dLc (dIter (dCall s_trained_steps (dCons (dVar 2) (dCons (dVar 3) dNil)))) (.many [5, 6]) (dB (dOp notNR (dVar 5) (dC .non))) (dTup (dCons (dOp ixR (dVar 5) (dC (.int 0))) (dCons (dOp ixR (dVar 5) (dC (.int 1))) (dCons (dVar 1) dNil)))) [5, 6]) (dgName 4))
    (dRet (dTup (dCons (dC (.str "joins")) (dCons (dVar 0) (dCons (dVar 1) (dCons (dCB tupleR (dCons (dVar 4) dNil)) dNil)))))))

def t_narrow_step (C_Margin : Addr) (s_Margin_narrow : DSp) : DTS :=
    (dFor (dKeysN (dVar 2)) (dgName 4)
      (dIfS (dB (dOp isNR (dVar 1) (dC .non)))
        (dDrop (dMethO C_Margin "narrow" s_Margin_narrow (dVar 0) (dCons (dUn negR (dOp ixR (dVar 2) (dVar 4))) (dCons (dUn negR (dOp ixR (dVar 3) (dVar 4))) dNil))))
        (dIfS (dB (dOp eqR (dVar 4) (dVar 1)))
          (dDrop (dMethO C_Margin "narrow" s_Margin_narrow (dVar 0) (dCons (dOp ixR (dVar 2) (dVar 1)) (dCons (dOp subR (dOp ixR (dVar 3) (dVar 1)) (dC (.int 1))) dNil))))
          (dSeq (dAsg (dIf (dB (dOp ltDR (dVar 4) (dVar 1))) (dC (.int 1)) (dC (.int 0))) (dgName 5))
          (dDrop (dMethO C_Margin "narrow" s_Margin_narrow (dVar 0) (dCons (dOp subR (dOp ixR (dVar 2) (dVar 1)) (dOp ixR (dVar 2) (dVar 4))) (dCons (dOp subR (dOp subR (dOp ixR (dVar 3) (dVar 1)) (dOp ixR (dVar 3) (dVar 4))) (dVar 5)) dNil))))))))

def t_margin_of (C_Margin : Addr) (s_Margin___init__ : DSp) (s_trained_steps : DSp) (s_narrow_step : DSp) (s_pair_counts : DSp) (s_joined_once : DSp) : DTS :=
    (dSeq (dAsg (dLc (dIter (dVar 1)) (.many [11, 12]) dYes (dCB listR (dCons (dVar 11) dNil)) [11, 12]) (dgName 4))
    (dSeq (dAsg (dLc (dRange1 (dCons (dCB lenR (dCons (dVar 1) dNil)) dNil)) (.one 13) dYes (dIf (dB (dOp eqR (dVar 13) (dVar 3))) (dC (.int 1)) (dC (.int 0))) [13]) (dgName 5))
    (dSeq (dAsg (dLc (dEnumT (dCons (dVar 1) dNil)) (.many [13, 9]) dYes (dIf (dB (dOp eqR (dVar 13) (dVar 3))) (dC (.int 0)) (dOp ixR (dVar 9) (dC (.int 1)))) [13, 9]) (dgName 6))
    (dSeq (dAsg dNewK (dgName 7))
    (dSeq (dAsg (dMake0 C_Margin s_Margin___init__) (dgName 8))
    (dSeq (dFor (dIter (dCall s_trained_steps (dCons (dVar 1) (dCons (dVar 2) dNil)))) (dgSeq 2 (dgCons (dgName 9) (dgCons (dgName 10) dgNil)))
      (dSeq (dDrop (dCall s_narrow_step (dCons (dVar 8) (dCons (dVar 9) (dCons (dCall s_pair_counts (dCons (dVar 4) (dCons (dVar 5) (dCons (dVar 7) dNil)))) (dCons (dCall s_pair_counts (dCons (dVar 4) (dCons (dVar 6) (dCons (dVar 7) dNil)))) dNil))))))
      (dIfS (dB (dOp notNR (dVar 9) (dC .non)))
        (dSeq (dAsg (dC (.bl true)) (dgSub (dVar 7) (dOp addR (dOp ixR (dVar 9) (dC (.int 0))) (dOp ixR (dVar 9) (dC (.int 1))))))
        (dAsg (dLc (dIter (dVar 4)) (.one 14) dYes (dCall s_joined_once (dCons (dVar 14) (dCons (dOp ixR (dVar 9) (dC (.int 0))) (dCons (dOp ixR (dVar 9) (dC (.int 1))) dNil)))) [14]) (dgName 4)))
        dNext)))
    (dRet (dTup (dCons (dFld C_Margin "least" (dVar 8)) (dCons (dFld C_Margin "greatest" (dVar 8)) dNil))))))))))

def t_u_law_pool : DTS :=
    (dSeq (dAsg (dLstM dNil) (dgName 1))
    (dSeq (dAsg (dOp addR (dC (.int 71129)) (dCB lenR (dCons (dVar 0) dNil))) (dgName 2))
    (dSeq (dFor (dIter (dVar 0)) (dgName 3)
      (dSeq (dAsg (dCB absR (dCons (dVar 3) dNil)) (dgName 4))
      (dSeq (dIfS (dB (dOp geR (dVar 4) (dOp powR (dC (.int 10)) (dC (.int 18)))))
        (dDrop (dMeth "list" appendR (dVar 1) (dCons (dVar 4) dNil)))
        dNext)
      (dAsg (dOp modR (dOp addR (dOp addR (dOp addR (dOp mulR (dCB intCR (dCons (dVar 2) dNil)) (dC (.int 57829))) (dOp modR (dCB intCR (dCons (dVar 4) dNil)) (dC (.int 2147483477)))) (dOp mulR (dC (.int 19)) (dCB intCR (dCons (dOp ltR (dVar 3) (dC (.int 0))) dNil)))) (dC (.int 9))) (dC (.int 2147483477))) (dgName 2)))))
    (dRet (dLstM (dCons (dVar 1) (dCons (dC (.int 0)) (dCons (dVar 2) dNil))))))))

def t_u_law_draw : DTS :=
    (dSeq (dIfS (dB (dOp ltR (dVar 1) (dC (.int 2))))
      (dRet (dC (.int 0)))
      dNext)
    (dSeq (dAsg (dOp ixR (dVar 0) (dC (.int 0))) (dgName 2))
    (dSeq (dIfS (dB (dOp ltR (dOp ixR (dVar 0) (dC (.int 1))) (dCB lenR (dCons (dVar 2) dNil))))
      (dSeq (dAsg (dCB intCR (dCons (dOp ixR (dVar 2) (dOp ixR (dVar 0) (dC (.int 1)))) dNil)) (dgName 3))
      (dSeq (dAsg (dOp fdivR (dVar 3) (dVar 1)) (dgSub (dVar 2) (dOp ixR (dVar 0) (dC (.int 1)))))
      (dSeq (dIfS (dB (dOp ltR (dVar 3) (dVar 1)))
        (dAsg (dOp addR (dOp ixR (dVar 0) (dC (.int 1))) (dC (.int 1))) (dgSub (dVar 0) (dC (.int 1))))
        dNext)
      (dRet (dOp modR (dCB intCR (dCons (dVar 3) dNil)) (dVar 1))))))
      dNext)
    (dSeq (dAsg (dOp modR (dOp addR (dOp mulR (dCB intCR (dCons (dOp ixR (dVar 0) (dC (.int 2))) dNil)) (dC (.int 44953))) (dC (.int 20011))) (dC (.int 2147483477))) (dgName 4))
    (dSeq (dAsg (dVar 4) (dgSub (dVar 0) (dC (.int 2))))
    (dRet (dOp modR (dOp fdivR (dOp modR (dCB intCR (dCons (dOp addR (dOp mulR (dVar 4) (dC (.int 8009))) (dOp fdivR (dVar 4) (dC (.int 16363)))) dNil)) (dC (.int 1000151))) (dC (.int 16))) (dVar 1))))))))

def t_u_law_letters (s_u_law_draw : DSp) : DTS :=
    (dSeq (dAsg (dCB listRM (dCons (dC (.str "sStTuUvVwWxXyYzZaAbBcCdDeEfFgGhHiIjJkKlLmMnNoOpPqQrR")) dNil)) (dgName 2))
    (dSeq (dAsg (dLstM dNil) (dgName 3))
    (dSeq (dFor (dRange1 (dCons (dVar 1) dNil)) (dgName 4)
      (dDrop (dMeth "list" appendR (dVar 3) (dCons (dMeth "list" popAtR (dVar 2) (dCons (dCall s_u_law_draw (dCons (dVar 0) (dCons (dCB lenR (dCons (dVar 2) dNil)) dNil))) dNil)) dNil))))
    (dRet (dMeth "str" joinR (dC (.str "")) (dCons (dCB sortedR (dCons (dVar 3) dNil)) dNil))))))

def t_u_law_word (s_u_law_draw : DSp) : DTS :=
    (dSeq (dAsg (dOp addR (dC (.int 1)) (dCall s_u_law_draw (dCons (dVar 0) (dCons (dVar 2) dNil)))) (dgName 3))
    (dSeq (dAsg (dMeth "str" joinR (dC (.str "")) (dCons (dLc (dRange1 (dCons (dOp addR (dC (.int 1)) (dCall s_u_law_draw (dCons (dVar 0) (dCons (dC (.int 5)) dNil)))) dNil)) (.one 5) dYes (dOp ixR (dVar 1) (dCall s_u_law_draw (dCons (dVar 0) (dCons (dCB lenR (dCons (dVar 1) dNil)) dNil)))) [5]) dNil)) (dgName 4))
    (dRet (dSl (dOp mulR (dVar 4) (dOp addR (dOp fdivR (dVar 3) (dCB lenR (dCons (dVar 4) dNil))) (dC (.int 1)))) dNoPart (dPart (dVar 3))))))

def t_u_law_count (s_u_law_draw : DSp) : DTS :=
    (dSeq (dAsg (dCall s_u_law_draw (dCons (dVar 0) (dCons (dC (.int 7)) dNil))) (dgName 2))
    (dSeq (dIfS (dB (dOp eqR (dVar 2) (dC (.int 0))))
      (dRet (dC (.int 0)))
      dNext)
    (dSeq (dIfS (dB (dOp ltR (dVar 2) (dC (.int 3))))
      (dRet (dVar 1))
      dNext)
    (dSeq (dIfS (dB (dOp eqR (dVar 2) (dC (.int 3))))
      (dRet (dOp subR (dOp powR (dC (.int 10)) (dC (.int 9))) (dCall s_u_law_draw (dCons (dVar 0) (dCons (dC (.int 3)) dNil)))))
      dNext)
    (dRet (dOp addR (dC (.int 1)) (dCall s_u_law_draw (dCons (dVar 0) (dCons (dC (.int 9)) dNil)))))))))

def t_u_law_corpus (s_u_law_word : DSp) (s_u_law_draw : DSp) (s_u_law_count : DSp) : DTS :=
    (dSeq (dAsg (dOp addLR (dLst (dCons (dOp addR (dOp ixR (dVar 1) (dC (.int 0))) (dOp ixR (dVar 1) (dUn negR (dC (.int 1))))) dNil)) (dLc (dRange1 (dCons (dVar 3) dNil)) (.one 6) dYes (dCall s_u_law_word (dCons (dVar 0) (dCons (dVar 1) (dCons (dVar 2) dNil)))) [6])) (dgName 4))
    (dSeq (dAsg (dOp addR (dC (.int 1)) (dCall s_u_law_draw (dCons (dVar 0) (dCons (dC (.int 6)) dNil)))) (dgName 5))
    (dRet (dCB tupleR (dCons (dLc (dIter (dSortSet (dVar 4))) (.one 7) dYes (dTup (dCons (dVar 7) (dCons (dCall s_u_law_count (dCons (dVar 0) (dCons (dVar 5) dNil))) dNil))) [7]) dNil)))))

def t_u_law_wide (s_u_law_draw : DSp) : DTS :=
    (dSeq (dAsg (dLstM dNil) (dgName 2))
    (dSeq (dFor (dRange1 (dCons (dC (.int 40)) dNil)) (dgName 3)
      (dSeq (dAsg (dMeth "str" joinR (dC (.str "")) (dCons (dLc (dIter (dTup (dCons (dC (.int 32)) (dCons (dC (.int 16)) (dCons (dC (.int 8)) (dCons (dC (.int 4)) (dCons (dC (.int 2)) (dCons (dC (.int 1)) dNil)))))))) (.one 6) dYes (dOp ixR (dVar 1) (dOp modR (dOp fdivR (dVar 3) (dVar 6)) (dC (.int 2)))) [6]) dNil)) (dgName 4))
      (dSeq (dAsg (dMeth "str" joinR (dC (.str "")) (dCons (dLc (dRange1 (dCons (dOp subR (dC (.int 74)) (dCall s_u_law_draw (dCons (dVar 0) (dCons (dC (.int 2)) dNil)))) dNil)) (.one 7) dYes (dOp ixR (dVar 1) (dCall s_u_law_draw (dCons (dVar 0) (dCons (dCB lenR (dCons (dVar 1) dNil)) dNil)))) [7]) dNil)) (dgName 5))
      (dDrop (dMeth "list" appendR (dVar 2) (dCons (dTup (dCons (dOp addR (dVar 4) (dVar 5)) (dCons (dOp subR (dOp powR (dC (.int 10)) (dC (.int 9))) (dCall s_u_law_draw (dCons (dVar 0) (dCons (dOp addR (dOp powR (dC (.int 10)) (dC (.int 9))) (dC (.int 1))) dNil)))) dNil))) dNil))))))
    (dRet (dCB tupleR (dCons (dVar 2) dNil)))))

def t_u_law_joined : DTS :=
    (dSeq (dAsg (dLstM dNil) (dgName 2))
    (dSeq (dAsg (dC (.int 0)) (dgName 3))
    (dSeq (dWhile (dB (dOp ltR (dVar 3) (dCB lenR (dCons (dVar 0) dNil))))
      (dIfS (dAnd (dB (dOp ltR (dOp addR (dVar 3) (dC (.int 1))) (dCB lenR (dCons (dVar 0) dNil)))) (dB (dOp eqR (dTup (dCons (dOp ixR (dVar 0) (dVar 3)) (dCons (dOp ixR (dVar 0) (dOp addR (dVar 3) (dC (.int 1)))) dNil))) (dVar 1))))
        (dSeq (dDrop (dMeth "list" appendR (dVar 2) (dCons (dOp addR (dOp ixR (dVar 0) (dVar 3)) (dOp ixR (dVar 0) (dOp addR (dVar 3) (dC (.int 1))))) dNil)))
        (dAsg (dOp addR (dVar 3) (dC (.int 2))) (dgName 3)))
        (dSeq (dDrop (dMeth "list" appendR (dVar 2) (dCons (dOp ixR (dVar 0) (dVar 3)) dNil)))
        (dAsg (dOp addR (dVar 3) (dC (.int 1))) (dgName 3)))))
    (dRet (dVar 2)))))

def t_u_law_rules (s_u_law_joined : DSp) : DTS :=
    (dSeq (dAsg (dLstM dNil) (dgName 4))
    (dSeq (dFor (dRange1 (dCons (dCB lenR (dCons (dVar 0) dNil)) dNil)) (dgName 5)
      (dDrop (dMeth "list" appendR (dVar 4) (dCons (dLstM (dCons (dLc (dIter (dOp ixR (dOp ixR (dVar 0) (dVar 5)) (dC (.int 0)))) (.one 15) dYes (dVar 15) [15]) (dCons (dIf (dB (dOp eqR (dVar 5) (dVar 1))) (dVar 2) (dOp ixR (dOp ixR (dVar 0) (dVar 5)) (dC (.int 1)))) dNil))) dNil))))
    (dSeq (dAsg (dLstM dNil) (dgName 6))
    (dSeq (dAsg dNewK (dgName 7))
    (dSeq (dFor (dRange1 (dCons (dVar 3) dNil)) (dgName 8)
      (dSeq (dAsg dNewN (dgName 9))
      (dSeq (dFor (dIter (dVar 4)) (dgSeq 2 (dgCons (dgName 10) (dgCons (dgName 11) dgNil)))
        (dFor (dRange1 (dCons (dOp subR (dCB lenR (dCons (dVar 10) dNil)) (dC (.int 1))) dNil)) (dgName 5)
          (dIfS (dB (dOp notInR (dOp addR (dOp ixR (dVar 10) (dVar 5)) (dOp ixR (dVar 10) (dOp addR (dVar 5) (dC (.int 1))))) (dVar 7)))
            (dSeq (dAsg (dTup (dCons (dOp ixR (dVar 10) (dVar 5)) (dCons (dOp ixR (dVar 10) (dOp addR (dVar 5) (dC (.int 1)))) dNil))) (dgName 12))
            (dAsg (dOp addR (dMeth "dict" getOr (dVar 9) (dCons (dVar 12) (dCons (dC (.int 0)) dNil))) (dVar 11)) (dgSub (dVar 9) (dVar 12))))
            dNext)))
      (dSeq (dAsg (dC .non) (dgName 13))
      (dSeq (dFor (dIter (dCB sortedR (dCons (dVar 9) dNil))) (dgName 12)
        (dIfS (dAnd (dB (dOp gtR (dOp ixR (dVar 9) (dVar 12)) (dC (.int 0)))) (dOr (dB (dOp isNR (dVar 13) (dC .non))) (dB (dOp gtR (dOp ixR (dVar 9) (dVar 12)) (dOp ixR (dVar 9) (dVar 13))))))
          (dAsg (dVar 12) (dgName 13))
          dNext))
      (dSeq (dIfS (dB (dOp isNR (dVar 13) (dC .non)))
        dBreak
        dNext)
      (dSeq (dDrop (dMeth "list" appendR (dVar 6) (dCons (dVar 13) dNil)))
      (dSeq (dAsg (dC (.bl true)) (dgSub (dVar 7) (dOp addR (dOp ixR (dVar 13) (dC (.int 0))) (dOp ixR (dVar 13) (dC (.int 1))))))
      (dFor (dIter (dVar 4)) (dgName 14)
        (dAsg (dCall s_u_law_joined (dCons (dOp ixR (dVar 14) (dC (.int 0))) (dCons (dVar 13) dNil))) (dgSub (dVar 14) (dC (.int 0)))))))))))))
    (dRet (dVar 6)))))))

def t_u_law_number : DTS :=
    (dRet (dAndV (dCB isiR (dCons (dVar 0) (dCons (dC (.ty "int")) dNil))) (dAndV (dNotV (dCB isiR (dCons (dVar 0) (dCons (dC (.ty "bool")) dNil)))) (dChain leR leR (dC (.int 0)) (dVar 0) (dOp powR (dC (.int 10)) (dC (.int 14)))))))

def t_u_law_trains (s_train_joins : DSp) : DTS :=
    (dSeq (dIfS (dB (dOp gtR (dVar 3) (dOp powR (dC (.int 10)) (dC (.int 9)))))
      (dRet (dC (.bl true)))
      dNext)
    (dSeq (dAsg (dOp addR (dOp addR (dSl (dVar 1) dNoPart (dPart (dVar 2))) (dTup (dCons (dTup (dCons (dOp ixR (dOp ixR (dVar 1) (dVar 2)) (dC (.int 0))) (dCons (dVar 3) dNil))) dNil))) (dSl (dVar 1) (dPart (dOp addR (dVar 2) (dC (.int 1)))) dNoPart)) (dgName 6))
    (dSeq (dAsg (dTup (dCons (dC (.str "joins")) (dCons (dVar 0) (dCons (dC (.str "Q")) (dCons (dCB tupleR (dCons (dLc (dIter (dVar 5)) (.many [9, 10]) dYes (dTup (dCons (dVar 9) (dCons (dVar 10) (dCons (dC (.str "Q")) dNil)))) [9, 10]) dNil)) dNil))))) (dgName 7))
    (dSeq (dAsg (dCall s_train_joins (dCons (dVar 0) (dCons (dC (.str "Q")) (dCons (dVar 6) (dCons (dVar 4) dNil))))) (dgName 8))
    (dRet (dAndV (dCB isiR (dCons (dVar 8) (dCons (dC (.ty "tuple")) dNil))) (dOp eqR (dVar 8) (dVar 7))))))))

def t_u_law_right (s_margin_of : DSp) (s_u_law_number : DSp) (s_u_law_rules : DSp) (s_u_law_trains : DSp) : DTS :=
    (dSeq (dAsg (dCall s_margin_of (dCons (dVar 0) (dCons (dVar 1) (dCons (dVar 2) (dCons (dVar 3) dNil))))) (dgName 5))
    (dSeq (dIfS (dOr (dNot (dB (dCB isiR (dCons (dVar 5) (dCons (dC (.ty "tuple")) dNil))))) (dOr (dB (dOp neR (dCB lenR (dCons (dVar 5) dNil)) (dC (.int 2)))) (dNot (dB (dCall s_u_law_number (dCons (dOp ixR (dVar 5) (dC (.int 0))) dNil))))))
      (dRet (dC (.bl false)))
      dNext)
    (dSeq (dIfS (dAnd (dB (dOp notNR (dOp ixR (dVar 5) (dC (.int 1))) (dC .non))) (dNot (dB (dCall s_u_law_number (dCons (dOp ixR (dVar 5) (dC (.int 1))) dNil)))))
      (dRet (dC (.bl false)))
      dNext)
    (dSeq (dAsg (dCall s_u_law_rules (dCons (dVar 1) (dCons (dVar 3) (dCons (dOp ixR (dOp ixR (dVar 1) (dVar 3)) (dC (.int 1))) (dCons (dVar 2) dNil))))) (dgName 6))
    (dSeq (dIfS (dOr (dB (dOp gtR (dOp ixR (dVar 5) (dC (.int 0))) (dOp ixR (dOp ixR (dVar 1) (dVar 3)) (dC (.int 1))))) (dAnd (dB (dOp notNR (dOp ixR (dVar 5) (dC (.int 1))) (dC .non))) (dB (dOp ltR (dOp ixR (dVar 5) (dC (.int 1))) (dOp ixR (dOp ixR (dVar 1) (dVar 3)) (dC (.int 1)))))))
      (dRet (dC (.bl false)))
      dNext)
    (dSeq (dAsg (dLstM dNil) (dgName 7))
    (dSeq (dIfS (dB (dOp gtR (dOp ixR (dVar 5) (dC (.int 0))) (dC (.int 0))))
      (dDrop (dMeth "list" appendR (dVar 7) (dCons (dOp subR (dOp ixR (dVar 5) (dC (.int 0))) (dC (.int 1))) dNil)))
      dNext)
    (dSeq (dIfS (dB (dOp notNR (dOp ixR (dVar 5) (dC (.int 1))) (dC .non)))
      (dDrop (dMeth "list" appendR (dVar 7) (dCons (dOp addR (dOp ixR (dVar 5) (dC (.int 1))) (dC (.int 1))) dNil)))
      dNext)
    (dSeq (dFor (dIter (dTup (dCons (dOp ixR (dVar 5) (dC (.int 0))) (dCons (dIf (dB (dOp isNR (dOp ixR (dVar 5) (dC (.int 1))) (dC .non))) (dOp powR (dC (.int 10)) (dC (.int 14))) (dOp ixR (dVar 5) (dC (.int 1)))) dNil)))) (dgName 8)
      (dSeq (dIfS (dB (dOp neR (dCall s_u_law_rules (dCons (dVar 1) (dCons (dVar 3) (dCons (dVar 8) (dCons (dVar 2) dNil))))) (dVar 6)))
        (dRet (dC (.bl false)))
        dNext)
      (dIfS (dAnd (dB (dVar 4)) (dNot (dB (dCall s_u_law_trains (dCons (dVar 0) (dCons (dVar 1) (dCons (dVar 3) (dCons (dVar 8) (dCons (dVar 2) (dCons (dVar 6) dNil))))))))))
        (dRet (dC (.bl false)))
        dNext)))
    (dSeq (dFor (dIter (dVar 7)) (dgName 8)
      (dSeq (dAsg (dCall s_u_law_rules (dCons (dVar 1) (dCons (dVar 3) (dCons (dVar 8) (dCons (dVar 2) dNil))))) (dgName 9))
      (dIfS (dOr (dB (dOp eqR (dVar 9) (dVar 6))) (dAnd (dB (dVar 4)) (dNot (dB (dCall s_u_law_trains (dCons (dVar 0) (dCons (dVar 1) (dCons (dVar 3) (dCons (dVar 8) (dCons (dVar 2) (dCons (dVar 9) dNil)))))))))))
        (dRet (dC (.bl false)))
        dNext)))
    (dRet (dC (.bl true)))))))))))))

def t_u_law_is (s_margin_of : DSp) (s_u_law_number : DSp) : DTS :=
    (dSeq (dAsg (dCall s_margin_of (dCons (dVar 0) (dCons (dVar 1) (dCons (dVar 2) (dCons (dVar 3) dNil))))) (dgName 6))
    (dSeq (dIfS (dOr (dNot (dB (dCB isiR (dCons (dVar 6) (dCons (dC (.ty "tuple")) dNil))))) (dOr (dB (dOp neR (dCB lenR (dCons (dVar 6) dNil)) (dC (.int 2)))) (dOr (dNot (dB (dCall s_u_law_number (dCons (dOp ixR (dVar 6) (dC (.int 0))) dNil)))) (dB (dOp neR (dOp ixR (dVar 6) (dC (.int 0))) (dVar 4))))))
      (dRet (dC (.bl false)))
      dNext)
    (dSeq (dIfS (dB (dOp isNR (dVar 5) (dC .non)))
      (dRet (dOp isNR (dOp ixR (dVar 6) (dC (.int 1))) (dC .non)))
      dNext)
    (dRet (dAndV (dCall s_u_law_number (dCons (dOp ixR (dVar 6) (dC (.int 1))) dNil)) (dOp eqR (dOp ixR (dVar 6) (dC (.int 1))) (dVar 5)))))))

def t_u_law_sure (s_u_law_letters : DSp) (s_u_law_draw : DSp) (s_u_law_is : DSp) : DTS :=
    (dSeq (dAsg (dCall s_u_law_letters (dCons (dVar 0) (dCons (dC (.int 3)) dNil))) (dgName 1))
    (dSeq (dAsg (dVar 1) (dgStr 3 (dgCons (dgName 2) (dgCons (dgName 3) (dgCons (dgName 4) dgNil)))))
    (dSeq (dAsg (dOp addR (dC (.int 1)) (dCall s_u_law_draw (dCons (dVar 0) (dCons (dC (.int 30)) dNil)))) (dgName 5))
    (dSeq (dAsg (dOp addR (dVar 5) (dCall s_u_law_draw (dCons (dVar 0) (dCons (dC (.int 9)) dNil)))) (dgName 6))
    (dSeq (dAsg (dOp addR (dVar 6) (dOp mulR (dCall s_u_law_draw (dCons (dVar 0) (dCons (dC (.int 2)) dNil))) (dCall s_u_law_draw (dCons (dVar 0) (dCons (dOp subR (dOp powR (dC (.int 10)) (dC (.int 9))) (dC (.int 100))) dNil))))) (dgName 7))
    (dSeq (dAsg (dTup (dCons (dTup (dCons (dOp mulR (dVar 2) (dC (.int 2))) (dCons (dVar 7) dNil))) (dCons (dTup (dCons (dVar 3) (dCons (dC (.int 5)) dNil))) (dCons (dTup (dCons (dOp mulR (dVar 3) (dC (.int 2))) (dCons (dVar 6) dNil))) (dCons (dTup (dCons (dOp mulR (dVar 4) (dC (.int 2))) (dCons (dVar 5) dNil))) dNil))))) (dgName 8))
    (dSeq (dIfS (dOr (dNot (dB (dCall s_u_law_is (dCons (dVar 1) (dCons (dVar 8) (dCons (dC (.int 3)) (dCons (dC (.int 2)) (dCons (dVar 5) (dCons (dVar 7) dNil))))))))) (dNot (dB (dCall s_u_law_is (dCons (dVar 1) (dCons (dVar 8) (dCons (dC (.int 3)) (dCons (dC (.int 0)) (dCons (dVar 6) (dCons (dC .non) dNil))))))))))
      (dRet (dC (.bl false)))
      dNext)
    (dSeq (dIfS (dOr (dNot (dB (dCall s_u_law_is (dCons (dVar 1) (dCons (dVar 8) (dCons (dC (.int 3)) (dCons (dC (.int 3)) (dCons (dC (.int 1)) (dCons (dVar 6) dNil))))))))) (dNot (dB (dCall s_u_law_is (dCons (dVar 1) (dCons (dVar 8) (dCons (dC (.int 2)) (dCons (dC (.int 1)) (dCons (dC (.int 0)) (dCons (dC .non) dNil))))))))))
      (dRet (dC (.bl false)))
      dNext)
    (dSeq (dAsg (dOp subR (dOp powR (dC (.int 10)) (dC (.int 9))) (dCall s_u_law_draw (dCons (dVar 0) (dCons (dC (.int 99)) dNil)))) (dgName 9))
    (dSeq (dAsg (dTup (dCons (dTup (dCons (dOp mulR (dVar 2) (dC (.int 2))) (dCons (dCall s_u_law_draw (dCons (dVar 0) (dCons (dC (.int 9)) dNil))) dNil))) (dCons (dTup (dCons (dOp mulR (dVar 3) (dC (.int 3))) (dCons (dVar 9) dNil))) dNil))) (dgName 8))
    (dSeq (dIfS (dOr (dNot (dB (dCall s_u_law_is (dCons (dVar 1) (dCons (dVar 8) (dCons (dC (.int 1)) (dCons (dC (.int 0)) (dCons (dC (.int 0)) (dCons (dOp subR (dOp mulR (dC (.int 2)) (dVar 9)) (dC (.int 1))) dNil))))))))) (dNot (dB (dCall s_u_law_is (dCons (dVar 1) (dCons (dVar 8) (dCons (dC (.int 0)) (dCons (dC (.int 0)) (dCons (dC (.int 0)) (dCons (dC .non) dNil))))))))))
      (dRet (dC (.bl false)))
      dNext)
    (dSeq (dAsg (dTup (dCons (dTup (dCons (dOp mulR (dVar 2) (dC (.int 2))) (dCons (dC (.int 0)) dNil))) (dCons (dTup (dCons (dOp mulR (dVar 3) (dC (.int 3))) (dCons (dC (.int 0)) dNil))) dNil))) (dgName 8))
    (dRet (dCall s_u_law_is (dCons (dVar 1) (dCons (dVar 8) (dCons (dOp addR (dC (.int 1)) (dCall s_u_law_draw (dCons (dVar 0) (dCons (dC (.int 16)) dNil)))) (dCons (dCall s_u_law_draw (dCons (dVar 0) (dCons (dC (.int 2)) dNil))) (dCons (dC (.int 0)) (dCons (dC (.int 0)) dNil))))))))))))))))))))

def t_law (s_u_law_pool : DSp) (s_u_law_letters : DSp) (s_u_law_draw : DSp) (s_u_law_corpus : DSp) (s_u_law_right : DSp) (s_u_law_sure : DSp) (s_u_law_wide : DSp) : DTS :=
    (dSeq (dAsg (dCall s_u_law_pool (dCons (dVar 0) dNil)) (dgName 1))
    (dSeq (dFor (dRange1 (dCons (dC (.int 3)) dNil)) (dgName 2)
      (dSeq (dAsg (dCall s_u_law_letters (dCons (dVar 1) (dCons (dOp ixR (dLst (dCons (dC (.int 1)) (dCons (dC (.int 2)) (dCons (dC (.int 2)) (dCons (dC (.int 3)) (dCons (dC (.int 5)) dNil)))))) (dCall s_u_law_draw (dCons (dVar 1) (dCons (dC (.int 5)) dNil)))) dNil))) (dgName 3))
      (dSeq (dAsg (dCall s_u_law_corpus (dCons (dVar 1) (dCons (dVar 3) (dCons (dOp ixR (dLst (dCons (dC (.int 4)) (dCons (dC (.int 9)) (dCons (dC (.int 16)) dNil)))) (dVar 2)) (dCons (dOp addR (dC (.int 1)) (dCall s_u_law_draw (dCons (dVar 1) (dCons (dC (.int 6)) dNil)))) dNil))))) (dgName 4))
      (dSeq (dAsg (dOp ixR (dLst (dCons (dC (.int 1)) (dCons (dC (.int 2)) (dCons (dC (.int 4)) (dCons (dC (.int 16)) dNil))))) (dCall s_u_law_draw (dCons (dVar 1) (dCons (dC (.int 4)) dNil)))) (dgName 5))
      (dFor (dRange1 (dCons (dC (.int 2)) dNil)) (dgName 6)
        (dIfS (dNot (dB (dCall s_u_law_right (dCons (dVar 3) (dCons (dVar 4) (dCons (dVar 5) (dCons (dCall s_u_law_draw (dCons (dVar 1) (dCons (dCB lenR (dCons (dVar 4) dNil)) dNil))) (dCons (dOp eqR (dVar 6) (dC (.int 0))) dNil))))))))
          (dRet (dC (.bl false)))
          dNext))))))
    (dSeq (dIfS (dNot (dB (dCall s_u_law_sure (dCons (dVar 1) dNil))))
      (dRet (dC (.bl false)))
      dNext)
    (dSeq (dIfS (dB (dOp eqR (dCall s_u_law_draw (dCons (dVar 1) (dCons (dC (.int 13)) dNil))) (dC (.int 4))))
      (dSeq (dAsg (dCall s_u_law_letters (dCons (dVar 1) (dCons (dOp addR (dC (.int 2)) (dCall s_u_law_draw (dCons (dVar 1) (dCons (dC (.int 4)) dNil)))) dNil))) (dgName 3))
      (dIfS (dNot (dB (dCall s_u_law_right (dCons (dVar 3) (dCons (dCall s_u_law_wide (dCons (dVar 1) (dCons (dVar 3) dNil))) (dCons (dC (.int 16)) (dCons (dCall s_u_law_draw (dCons (dVar 1) (dCons (dC (.int 40)) dNil))) (dCons (dC (.bl false)) dNil))))))))
        (dRet (dC (.bl false)))
        dNext))
      dNext)
    (dRet (dCall s_u_law_sure (dCons (dVar 1) dNil)))))))

def t_Margin___init__ (C_Margin : Addr) : DTS :=
    (dSeq (dSetF C_Margin "least" (dVar 0) (dC (.int 0)))
    (dSetF C_Margin "greatest" (dVar 0) (dC .non)))

def t_Margin_narrow (C_Margin : Addr) : DTS :=
    (dSeq (dIfS (dB (dOp gtR (dVar 1) (dC (.int 0))))
      (dSetF C_Margin "least" (dVar 0) (dCB max2R (dCons (dFld C_Margin "least" (dVar 0)) (dCons (dUn negR (dOp fdivR (dVar 2) (dVar 1))) dNil))))
      dNext)
    (dIfS (dB (dOp ltR (dVar 1) (dC (.int 0))))
      (dSeq (dAsg (dOp fdivR (dVar 2) (dUn negR (dVar 1))) (dgName 3))
      (dIfS (dOr (dB (dOp isNR (dFld C_Margin "greatest" (dVar 0)) (dC .non))) (dB (dOp ltR (dVar 3) (dFld C_Margin "greatest" (dVar 0)))))
        (dSetF C_Margin "greatest" (dVar 0) (dVar 3))
        dNext))
      dNext))

end K

set_option Elab.async false
set_option linter.all false
set_option maxRecDepth 100000
set_option maxHeartbeats 2000000
namespace K
open PySem L2 DL
open PyProof.Rows hiding St signs inR
local macro_rules | `(tactic| walk_at "dl") => `(tactic| dsimp only [dSeq, dAsg, dgName, dVar, dC, dOp, dUn, dCB, dCons, dNil, dTup, dLst, dLstM, dNewK, dNewN, dRet, dRetN, dDrop, dIfS, dNext, dNever, dB, dAnd, dOr, dNot, dAndV, dOrV, dNotV, dIf, dMeth, dSl, dPart, dNoPart, dFor, dIter, dRange1, dRange2, dZip, dEnum, dLc, dLcM, dDc, dSortSet, dCall, dgSeq, dgSub, dgCons, dgNil, dPar, dAug, dBreak, dCont, dYes, endsD, slot, List.set_cons_zero, List.set_cons_succ, itemsD, listR, listRM, tupleR, viewL, viewS, DL.intOf, dwipe, setAll, Shape.bind])
local macro_rules | `(tactic| walk_at "op") => `(tactic| ((first | refine eqR_int ?_ | refine eqR_str ?_ | refine eqR_bl ?_ | refine neR_int ?_ | refine neR_str ?_ | refine ltR_int ?_ | refine leR_int ?_ | refine gtR_int ?_ | refine geR_int ?_ | refine addR_int ?_ | refine addR_str ?_ ?_ | refine iaddR_int ?_ | refine subR_int ?_ | refine isNR_q ?_ | refine notNR_q ?_ | refine lenR_lst ?_ | refine lenR_tup ?_ | refine intCR_int ?_ | refine intCR_bl ?_ | refine absR_int ?_); (try dsimp only)))
def joinedOnce (l r : Str) : List Str → List Str
  | [] => []
  | [a] => [a]
  | a :: b :: t => if a = l ∧ b = r then (l ++ r) :: joinedOnce l r t else a :: joinedOnce l r (b :: t)
def sp_joined_once : DSp := fun ds M Q => ∃ (ps : List Str) (l r : Str), ds = [.lst (ps.map D.str), .str l, .str r] ∧ ps.length < 1000 ∧ l.length + r.length < 1000 ∧ Q (.lst ((joinedOnce l r ps).map D.str)) M
theorem drop_two {α : Type} {l : List α} {n : Nat} {x y : α} (h1 : l[n]? = some x) (h2 : l[n + 1]? = some y) : l.drop n = x :: y :: l.drop (n + 2) := by
  have a1 := (List.getElem?_eq_some_iff.mp h1)
  have a2 := (List.getElem?_eq_some_iff.mp h2)
  obtain ⟨b1, rfl⟩ := a1
  obtain ⟨b2, rfl⟩ := a2
  rw [List.drop_eq_getElem_cons b1, List.drop_eq_getElem_cons b2]
theorem dat_joined_once (ds : List D) (M : Store) (Q : DK) (h : sp_joined_once ds M Q) : t_joined_once (endsD M Q) (startD 5 ds) M := by
  obtain ⟨ps, l, r, rfl, hl, hs, q⟩ := h
  show t_joined_once (endsD M Q) [_, _, _, none, none] M
  unfold t_joined_once
  walk_at "dl"
  refine ⟨Nat.zero_le _, fun m ρ M' => ∃ (i : Nat) (acc : List Str), ρ = [some (.lst (ps.map D.str)), some (.str l), some (.str r), some (.ref M.length), some (.int i)] ∧ M' = M ++ [.lst (acc.map D.str)] ∧
    acc ++ joinedOnce l r (ps.drop i) = joinedOnce l r ps ∧ i ≤ ps.length ∧ m = ps.length - i ∧ acc.length ≤ i, ⟨_, 0, [], rfl, rfl, rfl, Nat.zero_le _, rfl, Nat.le_refl _⟩, ?_⟩
  rintro m ρ M' ⟨i, acc, rfl, rfl, e, hi, rfl, ha⟩
  have eM : (M ++ [MO.lst (acc.map D.str)])[M.length]? = some (.lst (acc.map D.str)) := get_at0 _ _
  have app : ∀ (y : Str) (Q' : DK), Q' .non (M ++ [.lst ((acc ++ [y]).map D.str)]) → appendR (.ref M.length) [.str y] (M ++ [MO.lst (acc.map D.str)]) Q' := fun y Q' h => by
    refine append_cell eM (by rw [List.length_map]; exact small (by omega)) ?_
    rw [set_at0]
    simpa using h
  walk_at "dl"
  walk_at "op"
  walk_at "op"
  simp only [List.length_map]
  refine ite_dec (fun h1 => ?_) (fun h1 => ?_)
  · have hlt : i < ps.length := by omega
    have ex : ps[i]? = some ps[i] := List.getElem?_eq_getElem hlt
    have one : ps[i] ≠ l ∨ ps[i + 1]? ≠ some r → ixR (.lst (ps.map D.str)) (.int i) (M ++ [MO.lst (acc.map D.str)]) fun x M1 => appendR (.ref M.length) [x] M1 fun x M1 =>
        DL.TurnOk (M ++ [MO.lst (acc.map D.str)]) [some (.lst (ps.map D.str)), some (.str l), some (.str r), some (.ref M.length), some (.int (i + 1))] M1 fun ρ'' M'' => ∃ m', m' < ps.length - i ∧ ∃ (i : Nat) (acc : List Str),
          ρ'' = [some (.lst (ps.map D.str)), some (.str l), some (.str r), some (.ref M.length), some (.int i)] ∧ M'' = M ++ [.lst (acc.map D.str)] ∧ acc ++ joinedOnce l r (ps.drop i) = joinedOnce l r ps ∧ i ≤ ps.length ∧ m' = ps.length - i ∧ acc.length ≤ i := fun hne => by
      refine ixR_lst ex (app _ _ (.inl ⟨ps.length - (i + 1), by omega, i + 1, acc ++ [ps[i]], rfl, rfl, ?_, by omega, rfl, by rw [List.length_append, List.length_singleton]; omega⟩))
      rw [← e, List.append_assoc, List.drop_eq_getElem_cons hlt]
      congr 1
      cases e2 : ps.drop (i + 1) with
      | nil => simp [joinedOnce]
      | cons b t =>
        have eb : ps[i + 1]? = some b := by
          have := List.getElem?_drop (xs := ps) (i := i + 1) (j := 0)
          rw [e2] at this
          simpa using this.symm
        have : ¬ (ps[i] = l ∧ b = r) := fun ⟨z1, z2⟩ => hne.elim (fun h => h z1) fun h => h (by rw [eb, z2])
        simp [joinedOnce, this]
    refine ixR_lst ex ?_
    try dsimp only
    walk_at "op"
    refine ite_dec (fun h2 => ?_) (fun h2 => ?_)
    · walk_at "op"
      walk_at "op"
      walk_at "op"
      simp only [List.length_map]
      refine ite_dec (fun h3 => ?_) (fun h3 => ?_)
      · have hlt1 : i + 1 < ps.length := by omega
        have ex1 : ps[i + 1]? = some ps[i + 1] := List.getElem?_eq_getElem hlt1
        walk_at "op"
        refine ixR_lst (n := i + 1) ex1 ?_
        try dsimp only
        walk_at "op"
        refine ite_dec (fun h4 => ?_) (fun h4 => ?_)
        · refine ⟨tyM_lst eM, ?_⟩
          walk_at "op"
          · exact small' (by omega)
          refine app _ _ ?_
          walk_at "op"
          refine .inl ⟨ps.length - (i + 2), by omega, i + 2, acc ++ [l ++ r], rfl, rfl, ?_, by omega, rfl, by rw [List.length_append, List.length_singleton]; omega⟩
          rw [← e, List.append_assoc, drop_two ex ex1, h2, h4]
          simp [joinedOnce]
        · exact ⟨tyM_lst eM, one (.inr (by rw [ex1]; simpa using h4))⟩
      · exact ⟨tyM_lst eM, one (.inr (by rw [List.getElem?_eq_none (by omega)]; simp))⟩
    · exact ⟨tyM_lst eM, one (.inl h2)⟩
  · have ei : i = ps.length := by omega
    subst ei
    rw [List.drop_length] at e
    simp only [joinedOnce, List.append_nil] at e
    subst e
    exact .lst (Nat.le_refl _) eM (belows_iff.mpr fun d hd => by obtain ⟨x, _, rfl⟩ := List.mem_map.mp hd; trivial) q
def ruleD (name : Str) (p : Str × Str) : D := .tup [.str p.1, .str p.2, .str name]
def joinsD (z name : Str) (rs : List (Str × Str)) : D := .tup [.str "joins", .str z, .str name, .tup (rs.map (ruleD name))]
theorem signs_len (z : Str) : (signs z).length = z.length := by
  unfold signs
  rw [List.length_map, Array.length_toList]
  rfl
theorem joinedOnce_len (l r : Str) : ∀ ps : List Str, (joinedOnce l r ps).length ≤ ps.length
  | [] => Nat.le_refl _
  | [a] => Nat.le_refl _
  | a :: b :: t => by
    unfold joinedOnce
    split
    · have := joinedOnce_len l r t
      simp only [List.length_cons]
      omega
    · have := joinedOnce_len l r (b :: t)
      simp only [List.length_cons] at this ⊢
      omega
theorem joinedOnce_mem {l r x : Str} : ∀ {ps : List Str}, x ∈ joinedOnce l r ps → x ∈ ps ∨ (x = l ++ r ∧ l ∈ ps ∧ r ∈ ps)
  | [], h => .inl h
  | [a], h => .inl h
  | a :: b :: t, h => by
    unfold joinedOnce at h
    split at h
    · rename_i e
      rcases List.mem_cons.mp h with z | z
      · exact .inr ⟨z, by rw [e.1]; simp, by rw [e.2]; simp⟩
      · rcases joinedOnce_mem z with q | ⟨q, q1, q2⟩
        · exact .inl (by simp [q])
        · exact .inr ⟨q, by simp [q1], by simp [q2]⟩
    · rcases List.mem_cons.mp h with z | z
      · exact .inl (by simp [z])
      · rcases joinedOnce_mem z with q | ⟨q, q1, q2⟩
        · exact .inl (List.mem_cons_of_mem _ q)
        · exact .inr ⟨q, List.mem_cons_of_mem _ q1, List.mem_cons_of_mem _ q2⟩
/-! ### the pairs and their counts -/
abbrev Pair := Str × Str
def kP (p : Pair) : NestedKey := .tup [.text p.1, .text p.2]
theorem kP_inj (a b : Pair) (h : kP a = kP b) : a = b := by
  unfold kP at h
  simp only [NestedKey.tup.injEq, List.cons.injEq, NestedKey.text.injEq, and_true] at h
  exact Prod.ext h.1 h.2
theorem tkey_P (a b : Str) : tkey (.tup [.str a, .str b]) = some (kP (a, b)) := rfl
theorem depth_P (p : Pair) : (kP p).depth ≤ 8 := by
  exact of_decide_eq_true rfl
abbrev F := List (Pair × Int)
def encF (f : F) : List (NestedKey × D) := f.map fun p => (kP p.1, D.int p.2)
theorem encF_get (f : F) (k : Pair) : aGet (encF f) (kP k) = (aGet f k).map D.int := aGet_map kP_inj D.int k f
theorem encF_put (f : F) (k : Pair) (v : Int) : aPut (encF f) (kP k) (.int v) = encF (aPut f k v) := aPut_map kP_inj D.int k v f
abbrev Tk := List (Str × Bool)
def encT (f : Tk) : List (Key × D) := f.map fun p => (Sum.inr p.1, D.bl p.2)
theorem encT_get (f : Tk) (k : Str) : aGet (encT f) (Sum.inr k) = (aGet f k).map D.bl := aGet_map (fun a b h => Sum.inr.inj h) D.bl k f
theorem encT_put (f : Tk) (k : Str) (v : Bool) : aPut (encT f) (Sum.inr k) (.bl v) = encT (aPut f k v) := aPut_map (fun a b h => Sum.inr.inj h) D.bl k v f
def bump (tk : Tk) (c : Int) (f : F) (p : Pair) : F := if (aGet tk (p.1 ++ p.2)).isSome then f else aPut f p ((aGet f p).getD 0 + c)
def pairsOf (ps : List Str) : List Pair := ps.zip ps.tail
def addRow (tk : Tk) (f : F) (rc : List Str × Int) : F := (pairsOf rc.1).foldl (bump tk rc.2) f
def countF (tk : Tk) (rcs : List (List Str × Int)) : F := rcs.foldl (addRow tk) []
theorem bump_len (tk : Tk) (c : Int) (f : F) (p : Pair) : (bump tk c f p).length ≤ f.length + 1 := by
  unfold bump
  split
  · omega
  · exact aPut_len _ _ _
theorem bumps_len (tk : Tk) (c : Int) : ∀ (l : List Pair) (f : F), (l.foldl (bump tk c) f).length ≤ f.length + l.length
  | [], f => Nat.le_refl _
  | p :: l, f => by
    have h := bumps_len tk c l (bump tk c f p)
    have h2 := bump_len tk c f p
    rw [List.foldl_cons, List.length_cons]
    omega
theorem pairsOf_len (ps : List Str) : (pairsOf ps).length ≤ ps.length := by
  unfold pairsOf
  rw [List.length_zip]
  omega
theorem rows_len (tk : Tk) : ∀ (l : List (List Str × Int)) (f : F), (∀ x ∈ l, x.1.length < 1000) → (l.foldl (addRow tk) f).length ≤ f.length + l.length * 1000
  | [], f, _ => by simp
  | x :: l, f, h => by
    have h1 := rows_len tk l (addRow tk f x) fun y hy => h y (List.mem_cons_of_mem _ hy)
    have h2 := bumps_len tk x.2 (pairsOf x.1) f
    have h3 := pairsOf_len x.1
    have h4 := h x (List.mem_cons_self ..)
    have h5 : (addRow tk f x).length ≤ f.length + 1000 := by
      unfold addRow
      omega
    rw [List.foldl_cons, List.length_cons]
    omega
/-- the rows: their pieces, joined no longer than 1000 two by two -/
def RowOk (ps : List Str) : Prop := ps.length < 1000 ∧ ∀ p ∈ pairsOf ps, p.1.length + p.2.length < 1000
def rowD (ps : List Str) : D := .lst (ps.map D.str)
def sp_pair_counts : DSp := fun ds M Q => ∃ (rcs : List (List Str × Int)) (tk : Tk) (n : Nat), ds = [.lst (rcs.map fun x => rowD x.1), .lst (rcs.map fun x => .int x.2), .ref n] ∧ M[n]? = some (.dk (encT tk)) ∧ rcs.length < 1000 ∧ (∀ x ∈ rcs, RowOk x.1) ∧
  Q (.dn (encF (countF tk rcs))) M
theorem zipD_map {α : Type} (f g : α → D) (l : List α) : zipD (l.map f) (l.map g) = l.map fun x => .tup [f x, g x] := by
  unfold zipD
  induction l with
  | nil => rfl
  | cons x l ih => simp [ih]
theorem zipD_pairs (ps : List Str) : zipD (ps.map D.str) ((ps.map D.str).tail) = (pairsOf ps).map fun p => .tup [.str p.1, .str p.2] := by
  unfold zipD pairsOf
  rw [← List.map_tail]
  generalize ps.tail = qs
  induction ps generalizing qs with
  | nil => rfl
  | cons x l ih =>
    cases qs with
    | nil => rfl
    | cons y qs => simp [ih]
theorem dat_pair_counts (ds : List D) (M : Store) (Q : DK) (h : sp_pair_counts ds M Q) : t_pair_counts (endsD M Q) (startD 8 ds) M := by
  obtain ⟨rcs, tk, n, rfl, eM, hl, hok, q⟩ := h
  show t_pair_counts (endsD M Q) [_, _, _, none, none, none, none, none] M
  unfold t_pair_counts
  walk_at "dl"
  rw [zipD_map]
  have hn : n < M.length := (List.getElem?_eq_some_iff.mp eM).1
  have gM : ∀ G : Store, (M ++ G)[n]? = some (.dk (encT tk)) := fun G => by rw [List.getElem?_append_left hn]; exact eM
  refine for_inv (fun i ρ M' => ∃ a b c e, ρ = [some (.lst (rcs.map fun x => rowD x.1)), some (.lst (rcs.map fun x => .int x.2)), some (.ref n), some (.ref M.length), a, b, c, e] ∧ M' = M ++ [.dn (encF ((rcs.take i).foldl (addRow tk) []))]) ⟨none, none, none, none, rfl, rfl⟩ ?_ ?_
  · rintro i x ρ M' ex ⟨a, b, c, e, rfl, rfl⟩
    rw [List.getElem?_map] at ex
    obtain ⟨rc, ep, rfl⟩ := Option.map_eq_some_iff.mp ex
    have hi : i < rcs.length := (List.getElem?_eq_some_iff.mp ep).1
    have rok := hok rc (List.mem_of_getElem? ep)
    refine ⟨⟨rfl, rfl⟩, fun go k => ?_⟩
    unfold rowD
    walk_at "dl"
    refine ⟨rfl, rfl, ?_⟩
    refine sliceR_lst ?_
    try dsimp only
    rw [cutD_tail]
    try dsimp only
    rw [zipD_pairs]
    have L0 := rows_len tk (rcs.take i) [] fun y hy => (hok y (List.mem_of_mem_take hy)).1
    rw [List.length_take, List.length_nil] at L0
    refine for_inv (fun j ρ M' => ∃ c e, ρ = [some (.lst (rcs.map fun x => rowD x.1)), some (.lst (rcs.map fun x => .int x.2)), some (.ref n), some (.ref M.length), some (rowD rc.1), some (.int rc.2), c, e] ∧
      M' = M ++ [.dn (encF (((pairsOf rc.1).take j).foldl (bump tk rc.2) ((rcs.take i).foldl (addRow tk) [])))]) ⟨_, _, rfl, rfl⟩ ?_ ?_
    · rintro j x ρ M' ex ⟨c, e, rfl, rfl⟩
      rw [List.getElem?_map] at ex
      obtain ⟨p, epp, rfl⟩ := Option.map_eq_some_iff.mp ex
      have hj : j < (pairsOf rc.1).length := (List.getElem?_eq_some_iff.mp epp).1
      have hp := rok.2 p (List.mem_of_getElem? epp)
      refine ⟨⟨rfl, rfl⟩, fun go k => ?_⟩
      have et : (pairsOf rc.1).take (j + 1) = (pairsOf rc.1).take j ++ [p] := by rw [List.take_add_one, epp]; rfl
      have L1 := bumps_len tk rc.2 ((pairsOf rc.1).take j) ((rcs.take i).foldl (addRow tk) [])
      rw [List.length_take] at L1
      have L2 := pairsOf_len rc.1
      have L3 := rok.1
      walk_at "dl"
      refine ⟨rfl, rfl, ?_⟩
      walk_at "op"
      · exact small' (by omega)
      refine notInR_at (dGet_dk (k := Sum.inr (p.1 ++ p.2)) (gM _) rfl) ?_
      dsimp only
      rw [encT_get, Option.isSome_map]
      refine ite_nbool (fun h => ?_) (fun h => ?_)
      · refine ⟨tyM_dn (get_at0 _ _), (by show 2 ≤ sizeLine; decide), ?_⟩
        refine getOr_at (dGet_dn (k := kP p) (get_at0 _ _) (tkey_P _ _) (depth_P p)) ?_
        rw [encF_get]
        have eg : ∀ (o : Option Int), (o.map D.int).getD (.int 0) = .int (o.getD 0) := fun o => by cases o <;> rfl
        rw [eg]
        walk_at "op"
        refine ⟨(by show 2 ≤ sizeLine; decide), ?_⟩
        refine setR_dn (k := kP p) (get_at0 _ _) (tkey_P _ _) (depth_P p) (by unfold encF; rw [List.length_map]; exact small (by omega)) ?_
        rw [set_at0, encF_put]
        refine .inl (k _ _ ⟨_, _, rfl, ?_⟩)
        rw [et, List.foldl_append]
        show M ++ [MO.dn _] = M ++ [MO.dn (encF (bump tk rc.2 _ p))]
        unfold bump
        rw [if_neg (by rw [h]; exact Bool.false_ne_true)]
      · refine .inl (k _ _ ⟨_, _, rfl, ?_⟩)
        rw [et, List.foldl_append]
        show _ = M ++ [MO.dn (encF (bump tk rc.2 _ p))]
        unfold bump
        rw [if_pos h]
    · rintro ρ M' ⟨c, e, rfl, rfl⟩
      refine ⟨⟨rfl, rfl⟩, .inl (k _ _ ⟨_, _, _, _, rfl, ?_⟩)⟩
      have et : rcs.take (i + 1) = rcs.take i ++ [rc] := by rw [List.take_add_one, ep]; rfl
      rw [List.length_map, List.take_length, et, List.foldl_append]
      rfl
  · rintro ρ M' ⟨a, b, c, e, rfl, rfl⟩
    refine ⟨⟨rfl, rfl⟩, ?_⟩
    walk_at "dl"
    rw [List.length_map, List.take_length]
    refine .dn (Nat.le_refl _) (get_at0 _ _) (belowN_iff.mpr fun d hd => ?_) q
    obtain ⟨x, _, rfl⟩ := List.mem_map.mp hd
    trivial
def pD (p : Pair) : D := .tup [.str p.1, .str p.2]
def pairD : Option Pair → D
  | none => .non
  | some p => pD p
def encP (p : Pair) : PyData := .tuple [.str p.1, .str p.2]
def sortP (ks : List Pair) : List Pair := ks.mergeSort (PySem.W.dataLe false encP)
def pickStep (f : F) (bm : Option Pair × Int) (k : Pair) : Option Pair × Int := if bm.2 < (aGet f k).getD 0 then (some k, (aGet f k).getD 0) else bm
def pickF (f : F) (ks : List Pair) : Option Pair × Int := ks.foldl (pickStep f) (none, 0)
def chosen (f : F) : Option Pair := (pickF f (sortP (f.map (·.1)))).1
theorem sortP_mem {ks : List Pair} {k : Pair} : k ∈ sortP ks ↔ k ∈ ks := (List.mergeSort_perm _ _).mem_iff
theorem sortP_len (ks : List Pair) : (sortP ks).length = ks.length := (List.mergeSort_perm _ _).length_eq
theorem aGet_key {κ α : Type} [DecidableEq κ] {k : κ} : ∀ {f : List (κ × α)}, k ∈ f.map (·.1) → ∃ v, aGet f k = some v
  | [], h => by cases h
  | p :: r, h => by
    rw [aGet_cons]
    by_cases e : p.1 = k
    · rw [if_pos e]; exact ⟨_, rfl⟩
    · rw [if_neg e]
      rcases List.mem_cons.mp h with z | z
      · exact (e z.symm).elim
      · exact aGet_key z
theorem srtP (M : Store) (ks : List Pair) (hl : ks.length ≤ sizeLine) : SrtOk M ks pD encP where
  py := fun p _ => .tup (.cons (.str _) (.cons (.str _) .nil))
  al := fun d hd d' hd' => by
    obtain ⟨a, _, rfl⟩ := List.mem_map.mp hd
    obtain ⟨b, _, rfl⟩ := List.mem_map.mp hd'
    rfl
  so := .inl fun d hd => by
    obtain ⟨a, _, rfl⟩ := List.mem_map.mp hd
    exact ⟨_, _, rfl⟩
  len := hl
  dep := fun p _ => of_decide_eq_true rfl
theorem src_F (M : Store) (f : F) : srcD M (.dn (encF f)) = some ((f.map (·.1)).map pD) := by
  show some ((encF f).map fun p => kD p.1) = _
  unfold encF
  rw [List.map_map, List.map_map]
  rfl
theorem sorted_F {f : F} {M : Store} {Q : DK} (hl : f.length ≤ sizeLine) (q : Q (.lst ((sortP (f.map (·.1))).map pD)) M) : sortedR [.dn (encF f)] M Q :=
  ⟨Pair, f.map fun x : Pair × Int => x.1, pD, encP, src_F M f, srtP M _ (by rw [List.length_map]; exact hl), q⟩
theorem found_at {f : F} {k : Pair} {v : Int} {M : Store} {Q : DK} (h : aGet f k = some v) (q : Q (.int v) M) : ixR (.dn (encF f)) (pD k) M Q :=
  ixR_dn (k := kP k) (tkey_P _ _) (depth_P k) (by rw [encF_get, h]; rfl) q
def sp_chosen_pair : DSp := fun ds M Q => ∃ f : F, ds = [.dn (encF f)] ∧ f.length < 10000000 ∧ Q (pairD (chosen f)) M
theorem dat_chosen_pair (ds : List D) (M : Store) (Q : DK) (h : sp_chosen_pair ds M Q) : t_chosen_pair (endsD M Q) (startD 4 ds) M := by
  obtain ⟨f, rfl, hl, q⟩ := h
  show t_chosen_pair (endsD M Q) [_, none, none, none] M
  unfold t_chosen_pair
  walk_at "dl"
  refine sorted_F (small' (by omega)) ?_
  try dsimp only
  refine for_inv (fun i ρ M' => ∃ a, ρ = [some (.dn (encF f)), some (pairD (pickF f ((sortP (f.map (·.1))).take i)).1), some (.int (pickF f ((sortP (f.map (·.1))).take i)).2), a] ∧ M' = M) ⟨none, rfl, rfl⟩ ?_ ?_
  · rintro i x ρ M' ex ⟨a, rfl, rfl⟩
    rw [List.getElem?_map] at ex
    obtain ⟨k, ek, rfl⟩ := Option.map_eq_some_iff.mp ex
    refine ⟨by rfl, fun go kk => ?_⟩
    have et : (sortP (f.map (·.1))).take (i + 1) = (sortP (f.map (·.1))).take i ++ [k] := by rw [List.take_add_one, ek]; rfl
    have est : pickF f ((sortP (f.map (·.1))).take (i + 1)) = pickStep f (pickF f ((sortP (f.map (·.1))).take i)) k := by
      rw [et]
      unfold pickF
      rw [List.foldl_append]
      rfl
    obtain ⟨v, ev⟩ := aGet_key (sortP_mem.mp (List.mem_of_getElem? ek))
    walk_at "dl"
    refine found_at ev ?_
    try dsimp only
    refine gtR_int ?_
    try dsimp only
    refine ite_dec (fun h => ?_) (fun h => ?_)
    · refine found_at ev ?_
      refine .inl (kk _ _ ⟨some (pD k), ?_, rfl⟩)
      rw [est]
      unfold pickStep
      rw [ev, if_pos (show _ < (some v).getD 0 from h)]
      rfl
    · refine .inl (kk _ _ ⟨some (pD k), ?_, rfl⟩)
      rw [est]
      unfold pickStep
      rw [ev, if_neg (show ¬ _ < (some v).getD 0 from h)]
  · rintro ρ M' ⟨a, rfl, rfl⟩
    refine ⟨by rfl, ?_⟩
    walk_at "dl"
    rw [List.length_map, List.take_length]
    exact .keep q
/-! ### the training -/
abbrev Rcs := List (List Str × Int)
def stepRows (p : Pair) (rcs : Rcs) : Rcs := rcs.map fun x => (joinedOnce p.1 p.2 x.1, x.2)
def train : Nat → Rcs → Tk → List (Option Pair × F)
  | 0, _, _ => []
  | n + 1, rcs, tk => (chosen (countF tk rcs), countF tk rcs) :: match chosen (countF tk rcs) with
    | none => []
    | some p => train n (stepRows p rcs) (aPut tk (p.1 ++ p.2) true)
def tot (ps : List Str) : Nat := (ps.map (·.length)).sum
theorem len_app (a b : Str) : (a ++ b).length = a.length + b.length := by
  show (a.cps ++ b.cps).size = _
  rw [Array.size_append]
  rfl
theorem tot_joined (l r : Str) : ∀ ps : List Str, tot (joinedOnce l r ps) = tot ps
  | [] => rfl
  | [a] => rfl
  | a :: b :: t => by
    unfold joinedOnce
    split
    · rename_i e
      have := tot_joined l r t
      unfold tot at this ⊢
      simp only [List.map_cons, List.sum_cons, this, len_app, e.1, e.2]
      omega
    · have := tot_joined l r (b :: t)
      unfold tot at this ⊢
      simp only [List.map_cons, List.sum_cons] at this ⊢
      omega
theorem tot_signs (z : Str) : tot (signs z) = z.length := by
  unfold tot
  have : (signs z).map (·.length) = List.replicate z.length 1 := by
    unfold signs
    rw [List.map_map]
    apply List.ext_getElem
    · rw [List.length_map, Array.length_toList, List.length_replicate]
      rfl
    · intro i h1 h2
      rw [List.getElem_map, List.getElem_replicate]
      rfl
  rw [this]
  simp
theorem pairs_tot {p : Pair} : ∀ {ps : List Str}, p ∈ pairsOf ps → p.1.length + p.2.length ≤ tot ps
  | [], h => by cases h
  | [a], h => by cases h
  | a :: b :: t, h => by
    have h : p ∈ (a, b) :: pairsOf (b :: t) := h
    rcases List.mem_cons.mp h with z | z
    · subst z
      unfold tot
      simp only [List.map_cons, List.sum_cons]
      omega
    · have := pairs_tot z
      unfold tot at this ⊢
      simp only [List.map_cons, List.sum_cons] at this ⊢
      omega
def RowT (ps : List Str) : Prop := ps.length < 1000 ∧ tot ps < 1000
theorem RowT.ok {ps : List Str} (h : RowT ps) : RowOk ps := ⟨h.1, fun p hp => Nat.lt_of_le_of_lt (pairs_tot hp) h.2⟩
theorem RowT.step {ps : List Str} (h : RowT ps) (p : Pair) : RowT (joinedOnce p.1 p.2 ps) := ⟨Nat.lt_of_le_of_lt (joinedOnce_len _ _ _) h.1, by rw [tot_joined]; exact h.2⟩
theorem RowT.start {z : Str} (h : z.length < 1000) : RowT (signs z) := ⟨by rw [signs_len]; exact h, by rw [tot_signs]; exact h⟩
theorem aPut_key {κ α : Type} [DecidableEq κ] {f : List (κ × α)} {k k' : κ} {v : α} (h : k' ∈ (aPut f k v).map (·.1)) : k' ∈ f.map (·.1) ∨ k' = k := by
  unfold aPut at h
  split at h
  · left
    rw [List.map_map] at h
    obtain ⟨p, hp, rfl⟩ := List.mem_map.mp h
    refine List.mem_map.mpr ⟨p, hp, ?_⟩
    show p.1 = (if p.1 = k then (p.1, v) else p).1
    split <;> rfl
  · rw [List.map_append] at h
    rcases List.mem_append.mp h with z | z
    · exact .inl z
    · exact .inr (by simpa using z)
theorem bumps_key {tk : Tk} {c : Int} {k : Pair} : ∀ {l : List Pair} {f : F}, k ∈ (l.foldl (bump tk c) f).map (·.1) → k ∈ f.map (·.1) ∨ k ∈ l
  | [], f, h => .inl h
  | p :: l, f, h => by
    rcases bumps_key (l := l) h with h | h
    · unfold bump at h
      split at h
      · exact .inl h
      · rcases aPut_key h with h | h
        · exact .inl h
        · exact .inr (by simp [h])
    · exact .inr (List.mem_cons_of_mem _ h)
theorem rows_key {tk : Tk} {k : Pair} : ∀ {l : Rcs} {f : F}, k ∈ (l.foldl (addRow tk) f).map (·.1) → k ∈ f.map (·.1) ∨ ∃ x ∈ l, k ∈ pairsOf x.1
  | [], f, h => .inl h
  | x :: l, f, h => by
    rcases rows_key (l := l) h with h | ⟨y, hy, h⟩
    · rcases bumps_key h with h | h
      · exact .inl h
      · exact .inr ⟨x, List.mem_cons_self .., h⟩
    · exact .inr ⟨y, List.mem_cons_of_mem _ hy, h⟩
theorem pick_mem {f : F} {p : Pair} : ∀ {ks : List Pair} {bm : Option Pair × Int}, (ks.foldl (pickStep f) bm).1 = some p → bm.1 = some p ∨ p ∈ ks
  | [], bm, h => .inl h
  | k :: ks, bm, h => by
    rcases pick_mem (ks := ks) h with h | h
    · unfold pickStep at h
      split at h
      · exact .inr (by cases h; simp)
      · exact .inl h
    · exact .inr (List.mem_cons_of_mem _ h)
theorem chosen_key {f : F} {p : Pair} (h : chosen f = some p) : p ∈ f.map (·.1) := by
  rcases pick_mem h with h | h
  · cases h
  · exact sortP_mem.mp h
theorem chosen_row {tk : Tk} {rcs : Rcs} {p : Pair} (h : chosen (countF tk rcs) = some p) : ∃ x ∈ rcs, p ∈ pairsOf x.1 := by
  rcases rows_key (chosen_key h) with h | h
  · cases h
  · exact h
theorem chosen_len {tk : Tk} {rcs : Rcs} {p : Pair} (h : chosen (countF tk rcs) = some p) (ok : ∀ x ∈ rcs, RowT x.1) : p.1.length + p.2.length < 1000 := by
  obtain ⟨x, hx, hp⟩ := chosen_row h
  exact (ok x hx).ok.2 p hp
theorem stepRows_ok {rcs : Rcs} {p : Pair} (ok : ∀ x ∈ rcs, RowT x.1) : ∀ x ∈ stepRows p rcs, RowT x.1 := fun x hx => by
  obtain ⟨y, hy, rfl⟩ := List.mem_map.mp hx
  exact (ok y hy).step p
theorem countF_len {tk : Tk} {rcs : Rcs} (hl : rcs.length < 1000) (ok : ∀ x ∈ rcs, RowT x.1) : (countF tk rcs).length < 1000000 := by
  have := rows_len tk rcs [] fun y hy => (ok y hy).1
  rw [List.length_nil] at this
  have e : (countF tk rcs).length ≤ 0 + rcs.length * 1000 := this
  omega
def wordD (x : Str × Int) : D := .tup [.str x.1, .int x.2]
def rows0 (cs : List (Str × Int)) : Rcs := cs.map fun x => (signs x.1, x.2)
def toldD (x : Option Pair × F) : D := .tup [pairD x.1, .dn (encF x.2)]
def CorpOk (cs : List (Str × Int)) : Prop := cs.length < 1000 ∧ ∀ x ∈ cs, x.1.length < 1000
theorem rows0_ok {cs : List (Str × Int)} (h : CorpOk cs) : ∀ x ∈ rows0 cs, RowT x.1 := fun x hx => by
  obtain ⟨y, hy, rfl⟩ := List.mem_map.mp hx
  exact RowT.start (h.2 y hy)
def trained (cs : List (Str × Int)) (n : Nat) : List (Option Pair × F) := train n (rows0 cs) []
def sp_trained_steps : DSp := fun ds M Q => ∃ (cs : List (Str × Int)) (n : Nat), ds = [.tup (cs.map wordD), .int n] ∧ CorpOk cs ∧ n < 100000 ∧ Q (.lst ((trained cs n).map toldD)) M
theorem train_len : ∀ (n : Nat) (rcs : Rcs) (tk : Tk), (train n rcs tk).length ≤ n
  | 0, _, _ => Nat.le_refl _
  | n + 1, rcs, tk => by
    unfold train
    split
    · simp
    · rename_i p e
      have := train_len n (stepRows p rcs) (aPut tk (p.1 ++ p.2) true)
      rw [List.length_cons]
      omega
theorem encF_bel {n : Nat} (f : F) : belowN n (encF f) := belowN_iff.mpr fun d hd => by
  obtain ⟨x, _, rfl⟩ := List.mem_map.mp hd
  trivial
theorem pairD_bel {n : Nat} : ∀ o : Option Pair, (pairD o).bel n
  | none => trivial
  | some p => ⟨trivial, trivial, trivial⟩
theorem told_bel {n : Nat} (l : List (Option Pair × F)) : belows n (l.map toldD) := belows_iff.mpr fun d hd => by
  obtain ⟨x, _, rfl⟩ := List.mem_map.mp hd
  exact ⟨pairD_bel _, encF_bel _, trivial⟩
theorem dat_trained_steps (ds : List D) (M : Store) (Q : DK) (h : sp_trained_steps ds M Q) : t_trained_steps sp_pair_counts sp_chosen_pair sp_joined_once (endsD M Q) (startD 12 ds) M := by
  obtain ⟨cs, n, rfl, ok, hn, q⟩ := h
  show t_trained_steps _ _ _ (endsD M Q) [_, _, none, none, none, none, none, none, none, none, none, none] M
  unfold t_trained_steps
  walk_at "dl"
  refine lc_map (sh := .many [9, 10]) ?_ wordD (fun x => rowD (signs x.1)) cs (small' (by have := ok.1; omega)) (fun x hx => ⟨_, rfl, fun K k => ?_⟩) ?_
  · trivial
  · walk_at "dl"
    rw [if_pos (small' (by have := ok.2 x hx; omega))]
    exact k
  refine lc_map (sh := .many [9, 10]) ?_ wordD (fun x => .int x.2) cs (small' (by have := ok.1; omega)) (fun x hx => ⟨_, rfl, fun K k => k⟩) ?_
  · trivial
  refine ⟨Nat.zero_le _, ?_⟩
  refine ⟨by omega, by omega, ?_⟩
  have e1 : (cs.map fun x => rowD (signs x.1)) = (rows0 cs).map fun x => rowD x.1 := by
    unfold rows0
    rw [List.map_map]
    rfl
  have e2 : (cs.map fun x => D.int x.2) = (rows0 cs).map fun x => D.int x.2 := by
    unfold rows0
    rw [List.map_map]
    rfl
  rw [e1, e2]
  have hl0 : (rows0 cs).length < 1000 := by
    unfold rows0
    rw [List.length_map]
    exact ok.1
  have hlen : (rangeD 0 ((n : Int)).toNat).length = n := by
    unfold rangeD
    simp
  refine for_inv (fun i ρ M' => ∃ (rcs : Rcs) (tk : Tk) (acc : List (Option Pair × F)) (a b c d e f : Option D), ρ = [some (.tup (cs.map wordD)), some (.int n), some (.lst (rcs.map fun x => rowD x.1)), some (.lst (rcs.map fun x => .int x.2)), some (.ref M.length), some (.ref (M.length + 1)), a, b, c, d, e, f] ∧
      M' = M ++ [.dk (encT tk), .lst (acc.map toldD)] ∧ acc ++ train (n - i) rcs tk = trained cs n ∧ rcs.length < 1000 ∧ (∀ x ∈ rcs, RowT x.1) ∧ acc.length ≤ i ∧ tk.length ≤ i)
    ⟨rows0 cs, [], [], none, none, none, none, none, none, ?_, ?_, rfl, hl0, rows0_ok ok, Nat.le_refl _, Nat.le_refl _⟩ ?_ ?_
  · simp
  · simp [encT]
  · rintro i x ρ M' ex ⟨rcs, tk, acc, a, b, c, d, e, f, rfl, rfl, et, hl, rok, ha, htk⟩
    have hi : i < n := by
      have := (List.getElem?_eq_some_iff.mp ex).1
      omega
    refine ⟨trivial, fun go k => ?_⟩
    obtain ⟨j, ej⟩ : ∃ j, n - i = j + 1 := ⟨n - i - 1, by omega⟩
    rw [ej] at et
    have g0 : (M ++ [MO.dk (encT tk), .lst (acc.map toldD)])[M.length]? = some (.dk (encT tk)) := get_at0 _ _
    have g1 : (M ++ [MO.dk (encT tk), .lst (acc.map toldD)])[M.length + 1]? = some (.lst (acc.map toldD)) := get_at _ _ 1
    walk_at "dl"
    refine ⟨rcs, tk, M.length, rfl, g0, hl, fun x hx => (rok x hx).ok, ?_⟩
    have hF := countF_len (tk := tk) hl rok
    refine ⟨countF tk rcs, rfl, by omega, ?_⟩
    refine ⟨tyM_lst g1, (by show 2 ≤ sizeLine; decide), ?_⟩
    refine append_cell g1 (by rw [List.length_map]; exact small (by omega)) ?_
    rw [set_at]
    refine isNR_q ?_
    try dsimp only
    have ea : acc.map toldD ++ [D.tup [pairD (chosen (countF tk rcs)), .dn (encF (countF tk rcs))]] = (acc ++ [(chosen (countF tk rcs), countF tk rcs)]).map toldD := by
      rw [List.map_append]
      rfl
    rw [ea]
    unfold train at et
    cases ec : chosen (countF tk rcs) with
    | none =>
      rw [ec] at et
      refine (if_pos (show D.isN (pairD none) = true from rfl)).symm ▸ ?_
      refine .lst (k := M.length + 1) (Nat.le_succ _) (get_at _ _ 1) (told_bel _) ?_
      have : acc ++ [(none, countF tk rcs)] = trained cs n := et
      rw [this]
      exact q
    | some p =>
      rw [ec] at et
      refine (if_neg (show ¬ D.isN (pairD (some p)) = true from Bool.false_ne_true)).symm ▸ ?_
      have hp := chosen_len ec rok
      refine ixR_tup (n := 0) rfl (ixR_tup (n := 1) rfl ?_)
      refine addR_str (small' (by omega)) ?_
      try dsimp only
      refine setR_dk (k := Sum.inr (p.1 ++ p.2)) (kvs := encT tk) (get_at0 _ _) rfl ?_ ?_
      · unfold encT
        rw [List.length_map]
        exact small (by omega)
      rw [set_at0, encT_put]
      refine lc_map (sh := .one 11) ?_ (fun x : List Str × Int => rowD x.1) (fun x => rowD (joinedOnce p.1 p.2 x.1)) rcs (small' (by omega)) (fun x hx => ⟨_, rfl, fun K k => ?_⟩) ?_
      · rfl
      · walk_at "dl"
        refine ixR_tup (n := 0) rfl (ixR_tup (n := 1) rfl ?_)
        exact ⟨x.1, p.1, p.2, rfl, (rok x hx).1, hp, k⟩
      have e3 : (rcs.map fun x => rowD (joinedOnce p.1 p.2 x.1)) = (stepRows p rcs).map fun x => rowD x.1 := by
        unfold stepRows
        rw [List.map_map]
        rfl
      have e4 : (rcs.map fun x => D.int x.2) = (stepRows p rcs).map fun x => D.int x.2 := by
        unfold stepRows
        rw [List.map_map]
        rfl
      rw [e3, e4]
      refine .inl (k _ _ ⟨stepRows p rcs, aPut tk (p.1 ++ p.2) true, acc ++ [(some p, countF tk rcs)], _, _, _, _, _, _, rfl, rfl, ?_, ?_, stepRows_ok rok, ?_, ?_⟩)
      · have : n - (i + 1) = j := by omega
        rw [this, ← et, List.append_assoc]
        rfl
      · unfold stepRows
        rw [List.length_map]
        exact hl
      · rw [List.length_append, List.length_singleton]
        omega
      · have := aPut_len tk (p.1 ++ p.2) true
        omega
  · rintro ρ M' ⟨rcs, tk, acc, a, b, c, d, e, f, rfl, rfl, et, hl, rok, ha, htk⟩
    refine ⟨trivial, ?_⟩
    walk_at "dl"
    rw [hlen, Nat.sub_self] at et
    unfold train at et
    rw [List.append_nil] at et
    refine .lst (k := M.length + 1) (Nat.le_succ _) (get_at _ _ 1) (told_bel _) ?_
    rw [et]
    exact q
def rulesOf (l : List (Option Pair × F)) : List Pair := l.filterMap (·.1)
theorem RetOk_fz {M G : Store} {d d' : D} {Q : DK} (hz : Fz (M ++ G) M.length d d') (h : Q d' M) : RetOk M d (M ++ G) Q := .inr ⟨d', M, G, rfl, Nat.le_refl _, fun i o e => .inl e, hz, h⟩
def sp_train_joins : DSp := fun ds M Q => ∃ (z name : Str) (cs : List (Str × Int)) (n : Nat), ds = [.str z, .str name, .tup (cs.map wordD), .int n] ∧ CorpOk cs ∧ n < 100000 ∧ Q (joinsD z name (rulesOf (trained cs n))) M
theorem trained_len (cs : List (Str × Int)) (n : Nat) : (trained cs n).length ≤ n := train_len _ _ _
theorem rulesOf_len (l : List (Option Pair × F)) : (rulesOf l).length ≤ l.length := List.length_filterMap_le _ _
theorem dat_train_joins (ds : List D) (M : Store) (Q : DK) (h : sp_train_joins ds M Q) : t_train_joins sp_trained_steps (endsD M Q) (startD 7 ds) M := by
  obtain ⟨z, name, cs, n, rfl, ok, hn, q⟩ := h
  show t_train_joins _ (endsD M Q) [_, _, _, _, none, none, none] M
  unfold t_train_joins
  walk_at "dl"
  refine ⟨cs, n, rfl, ok, hn, ?_⟩
  have hl := trained_len cs n
  refine lc_filter (sh := .many [5, 6]) (by rfl) toldD (fun x => x.1.map (ruleD name)) (trained cs n) (small' (by omega)) (fun x hx => ⟨_, rfl, fun K k => ?_⟩) (fun x hx d e ρ2 eb K k => ?_) ?_
  · walk_at "dl"
    refine notNR_q ?_
    try dsimp only
    obtain ⟨o, f⟩ := x
    cases o <;> exact k
  · obtain ⟨o, f⟩ := x
    cases o with
    | none => cases e
    | some p =>
      have e' := Option.some.inj e
      subst e'
      have eb' := Option.some.inj eb
      subst eb'
      walk_at "dl"
      exact ixR_tup (n := 0) rfl (ixR_tup (n := 1) rfl ⟨(by show 3 ≤ sizeLine; decide), k⟩)
  have e : (trained cs n).filterMap (fun x => x.1.map (ruleD name)) = (rulesOf (trained cs n)).map (ruleD name) := by
    unfold rulesOf
    rw [List.map_filterMap]
  rw [e]
  exact ⟨(by show 4 ≤ sizeLine; decide), .keep q⟩
theorem train_F {x : Option Pair × F} : ∀ {n : Nat} {rcs : Rcs} {tk : Tk}, rcs.length < 1000 → (∀ y ∈ rcs, RowT y.1) → x ∈ train n rcs tk → x.2.length < 1000000
  | 0, _, _, _, _, h => by cases h
  | n + 1, rcs, tk, hl, ok, h => by
    unfold train at h
    rcases List.mem_cons.mp h with e | h
    · rw [e]
      exact countF_len hl ok
    · split at h
      · cases h
      · exact train_F (by unfold stepRows; rw [List.length_map]; exact hl) (stepRows_ok ok) h
theorem trained_F {x : Option Pair × F} {cs : List (Str × Int)} {n : Nat} (ok : CorpOk cs) (h : x ∈ trained cs n) : x.2.length < 1000000 := train_F (by unfold rows0; rw [List.length_map]; exact ok.1) (rows0_ok ok) h
theorem range_item {n i : Nat} {x : D} (h : (rangeD 0 n)[i]? = some x) : x = .int ((i : Nat) : Int) ∧ i < n := by
  unfold rangeD at h
  rw [List.getElem?_map] at h
  obtain ⟨j, ej, rfl⟩ := Option.map_eq_some_iff.mp h
  obtain ⟨h1, h2⟩ := List.getElem?_eq_some_iff.mp ej
  rw [List.length_range] at h1
  rw [List.getElem_range] at h2
  subst h2
  exact ⟨by rw [Int.zero_add], h1⟩
theorem range_len (n : Nat) : (rangeD 0 n).length = n := by
  unfold rangeD
  simp
theorem pairs_at {ps : List Str} {i : Nat} {a b : Str} (h1 : ps[i]? = some a) (h2 : ps[i + 1]? = some b) : (pairsOf ps)[i]? = some (a, b) := by
  unfold pairsOf
  rw [List.getElem?_zip_eq_some]
  exact ⟨h1, by rw [List.getElem?_tail]; exact h2⟩
theorem pairs_len (ps : List Str) : (pairsOf ps).length = ps.length - 1 := by
  unfold pairsOf
  rw [List.length_zip, List.length_tail]
  omega
def lineD (x : List Str × Int) : D := .tup [rowD x.1, .int x.2]
/-! texts without surrogate trouble: shaped -/
def OkS (ps : List Str) : Prop := ∀ p ∈ ps, PyData.strOk p = true
theorem strOk_app {a b : Str} (h1 : PyData.strOk a = true) (h2 : PyData.strOk b = true) : PyData.strOk (a ++ b) = true := by
  unfold PyData.strOk at *
  show (a.cps ++ b.cps).all _ = true
  rw [Array.all_append, h1, h2]
  rfl
theorem shaped_P {p : Pair} (h1 : PyData.strOk p.1 = true) (h2 : PyData.strOk p.2 = true) : SeqAt.shaped (encP p) = true := by
  unfold SeqAt.shaped encP
  rw [Bool.and_eq_true]
  refine ⟨?_, of_decide_eq_true (by rfl) |> decide_eq_true⟩
  simp [PyData.canLay0, PyData.canLayAll0, h1, h2]
theorem eqv_P (p q : Pair) : PyData.eqv (encP p) (encP q) = decide (p = q) := by
  obtain ⟨a, b⟩ := p
  obtain ⟨c, d⟩ := q
  show (a == c && (b == d && true)) = _
  rw [Bool.and_true]
  by_cases h1 : a = c
  · by_cases h2 : b = d
    · simp [h1, h2]
    · simp [h1, h2]
  · simp [h1]
theorem eqR_P {p q : Pair} {M : Store} {Q : DK} (h : PyData.strOk p.1 = true ∧ PyData.strOk p.2 = true ∧ PyData.strOk q.1 = true ∧ PyData.strOk q.2 = true) (k : Q (.bl (decide (p = q))) M) : eqR (pD p) (pD q) M Q :=
  ⟨encP p, encP q, .tup (.cons (.str _) (.cons (.str _) .nil)), .tup (.cons (.str _) (.cons (.str _) .nil)), shaped_P h.1 h.2.1, shaped_P h.2.2.1 h.2.2.2, by rw [eqv_P]; exact k⟩
theorem joinedOnce_ok {l r : Str} (hl : PyData.strOk l = true) (hr : PyData.strOk r = true) {ps : List Str} (h : OkS ps) : OkS (joinedOnce l r ps) := fun x hx => by
  rcases joinedOnce_mem hx with h' | ⟨h', _⟩
  · exact h x h'
  · rw [h']; exact strOk_app hl hr
def sp_u_law_joined : DSp := fun ds M Q => ∃ (ps : List Str) (p : Pair), ds = [rowD ps, pD p] ∧ RowOk ps ∧ OkS ps ∧ PyData.strOk p.1 = true ∧ PyData.strOk p.2 = true ∧ Q (rowD (joinedOnce p.1 p.2 ps)) M
theorem str_bel {n : Nat} (l : List Str) : belows n (l.map D.str) := belows_iff.mpr fun d hd => by
  obtain ⟨x, _, rfl⟩ := List.mem_map.mp hd
  trivial
theorem dat_u_law_joined (ds : List D) (M : Store) (Q : DK) (h : sp_u_law_joined ds M Q) : t_u_law_joined (endsD M Q) (startD 4 ds) M := by
  obtain ⟨ps, ⟨l, r⟩, rfl, rok, oks, ol, or, q⟩ := h
  show t_u_law_joined (endsD M Q) [some (rowD ps), some (pD (l, r)), none, none] M
  unfold t_u_law_joined
  walk_at "dl"
  refine ⟨Nat.zero_le _, fun m ρ M' => ∃ (i : Nat) (acc : List Str), ρ = [some (rowD ps), some (pD (l, r)), some (.ref M.length), some (.int i)] ∧ M' = M ++ [.lst (acc.map D.str)] ∧
    acc ++ joinedOnce l r (ps.drop i) = joinedOnce l r ps ∧ i ≤ ps.length ∧ m = ps.length - i ∧ acc.length ≤ i, ⟨_, 0, [], rfl, rfl, rfl, Nat.zero_le _, rfl, Nat.le_refl _⟩, ?_⟩
  rintro m ρ M' ⟨i, acc, rfl, rfl, e, hi, rfl, ha⟩
  have hl := rok.1
  have eM : (M ++ [MO.lst (acc.map D.str)])[M.length]? = some (.lst (acc.map D.str)) := get_at0 _ _
  have app : ∀ (y : Str) (Q' : DK), Q' .non (M ++ [.lst ((acc ++ [y]).map D.str)]) → appendR (.ref M.length) [.str y] (M ++ [MO.lst (acc.map D.str)]) Q' := fun y Q' h => by
    refine append_cell eM (by rw [List.length_map]; exact small (by omega)) ?_
    rw [set_at0]
    simpa using h
  have len : ∀ (M : Store) (K : DK), K (.int ps.length) M → lenR [rowD ps] M K := fun M K h => lenR_lst (by rw [List.length_map]; exact h)
  walk_at "dl"
  refine len _ _ (ltR_int ?_)
  try dsimp only
  refine ite_dec (fun h1 => ?_) (fun h1 => ?_)
  · have hlt : i < ps.length := by omega
    have ex : ps[i]? = some ps[i] := List.getElem?_eq_getElem hlt
    have ix0 : ∀ (M : Store) (K : DK), K (.str ps[i]) M → ixR (rowD ps) (.int ((i : Nat) : Int)) M K := fun M K h => ixR_lst ex h
    have one : ps[i] ≠ l ∨ ps[i + 1]? ≠ some r → ixR (rowD ps) (.int i) (M ++ [MO.lst (acc.map D.str)]) fun x M1 => appendR (.ref M.length) [x] M1 fun x M1 => addR (.int i) (.int 1) M1 fun y M1 =>
        DL.TurnOk (M ++ [MO.lst (acc.map D.str)]) [some (rowD ps), some (pD (l, r)), some (.ref M.length), some y] M1 fun ρ'' M'' => ∃ m', m' < ps.length - i ∧ ∃ (i : Nat) (acc : List Str),
          ρ'' = [some (rowD ps), some (pD (l, r)), some (.ref M.length), some (.int i)] ∧ M'' = M ++ [.lst (acc.map D.str)] ∧ acc ++ joinedOnce l r (ps.drop i) = joinedOnce l r ps ∧ i ≤ ps.length ∧ m' = ps.length - i ∧ acc.length ≤ i := fun hne => by
      refine ix0 _ _ (app _ _ (addR_int (.inl ⟨ps.length - (i + 1), by omega, i + 1, acc ++ [ps[i]], rfl, rfl, ?_, by omega, rfl, by rw [List.length_append, List.length_singleton]; omega⟩)))
      rw [← e, List.append_assoc, List.drop_eq_getElem_cons hlt]
      congr 1
      cases e2 : ps.drop (i + 1) with
      | nil => simp [joinedOnce]
      | cons b t =>
        have eb : ps[i + 1]? = some b := by
          have := List.getElem?_drop (xs := ps) (i := i + 1) (j := 0)
          rw [e2] at this
          simpa using this.symm
        have : ¬ (ps[i] = l ∧ b = r) := fun ⟨z1, z2⟩ => hne.elim (fun h => h z1) fun h => h (by rw [eb, z2])
        simp [joinedOnce, this]
    refine addR_int (len _ _ (ltR_int ?_))
    try dsimp only
    refine ite_dec (fun h3 => ?_) (fun h3 => ?_)
    · have hlt1 : i + 1 < ps.length := by omega
      have ex1 : ps[i + 1]? = some ps[i + 1] := List.getElem?_eq_getElem hlt1
      have ix1 : ∀ (M : Store) (K : DK), K (.str ps[i + 1]) M → ixR (rowD ps) (.int (((i : Nat) : Int) + 1)) M K := fun M K h => ixR_lst (n := i + 1) ex1 h
      refine ix0 _ _ (addR_int (ix1 _ _ ⟨(by show 2 ≤ sizeLine; decide), ?_⟩))
      refine eqR_P (p := (ps[i], ps[i + 1])) (q := (l, r)) ⟨oks _ (List.getElem_mem _), oks _ (List.getElem_mem _), ol, or⟩ ?_
      try dsimp only
      have hsum := rok.2 _ (List.mem_of_getElem? (pairs_at ex ex1))
      dsimp only at hsum
      refine ite_dec (fun h4 => ?_) (fun h4 => ?_)
      · refine ⟨tyM_lst eM, ?_⟩
        refine ix0 _ _ (addR_int (ix1 _ _ ?_))
        refine addR_str (small' (by omega)) ?_
        try dsimp only
        refine app _ _ (addR_int ?_)
        refine .inl ⟨ps.length - (i + 2), by omega, i + 2, acc ++ [ps[i] ++ ps[i + 1]], rfl, rfl, ?_, by omega, rfl, by rw [List.length_append, List.length_singleton]; omega⟩
        have z1 : ps[i] = l := congrArg Prod.fst h4
        have z2 : ps[i + 1] = r := congrArg Prod.snd h4
        rw [← e, List.append_assoc, drop_two ex ex1, z1, z2]
        simp [joinedOnce]
      · refine ⟨tyM_lst eM, one ?_⟩
        by_cases z1 : ps[i] = l
        · refine .inr fun z2 => h4 ?_
          rw [ex1] at z2
          exact Prod.ext z1 (Option.some.inj z2)
        · exact .inl z1
    · exact ⟨tyM_lst eM, one (.inr (by rw [List.getElem?_eq_none (by omega)]; simp))⟩
  · have ei : i = ps.length := by omega
    subst ei
    rw [List.drop_length] at e
    simp only [joinedOnce, List.append_nil] at e
    subst e
    exact .lst (Nat.le_refl _) eM (str_bel _) q
/-! the law's own training -/
def finalRows (rs : List Pair) (rcs : Rcs) : Rcs := rs.foldl (fun rcs p => stepRows p rcs) rcs
def rowsOk (rcs : Rcs) : Prop := rcs.length < 1000 ∧ (∀ x ∈ rcs, RowT x.1) ∧ ∀ x ∈ rcs, OkS x.1
theorem rowsOk.step {rcs : Rcs} {p : Pair} (h : rowsOk rcs) (h1 : PyData.strOk p.1 = true) (h2 : PyData.strOk p.2 = true) : rowsOk (stepRows p rcs) := ⟨by unfold stepRows; rw [List.length_map]; exact h.1, stepRows_ok h.2.1, fun x hx => by
  obtain ⟨y, hy, rfl⟩ := List.mem_map.mp hx
  exact joinedOnce_ok h1 h2 (h.2.2 y hy)⟩
theorem pairs_ok {ps : List Str} (h : OkS ps) {p : Pair} (hp : p ∈ pairsOf ps) : PyData.strOk p.1 = true ∧ PyData.strOk p.2 = true := by
  obtain ⟨a, b⟩ := p
  have := List.of_mem_zip hp
  exact ⟨h _ this.1, h _ (List.mem_of_mem_tail this.2)⟩
def CorpS (cs : List (Str × Int)) : Prop := CorpOk cs ∧ ∀ x ∈ cs, PyData.strOk x.1 = true
theorem signs_ok {z : Str} (h : PyData.strOk z = true) : OkS (signs z) := fun p hp => by
  unfold signs at hp
  obtain ⟨c, hc, rfl⟩ := List.mem_map.mp hp
  unfold PyData.strOk at h ⊢
  rw [Array.all_eq_true_iff_forall_mem] at h
  have := h c (by simpa using hc)
  simpa using this
theorem rows0_all {cs : List (Str × Int)} (h : CorpS cs) : rowsOk (rows0 cs) := ⟨by unfold rows0; rw [List.length_map]; exact h.1.1, rows0_ok h.1, fun x hx => by
  obtain ⟨y, hy, rfl⟩ := List.mem_map.mp hx
  exact signs_ok (h.2 y hy)⟩
theorem pD_bel {n : Nat} (l : List Pair) : belows n (l.map pD) := belows_iff.mpr fun d hd => by
  obtain ⟨x, _, rfl⟩ := List.mem_map.mp hd
  exact ⟨trivial, trivial, trivial⟩
theorem rows_bel {n : Nat} (rcs : Rcs) : belows n (rcs.map fun x => rowD x.1) := belows_iff.mpr fun d hd => by
  obtain ⟨x, _, rfl⟩ := List.mem_map.mp hd
  exact str_bel _
end K

set_option Elab.async false
set_option linter.all false
set_option maxRecDepth 100000
set_option maxHeartbeats 2000000
namespace K
open PySem L2 DL
open PyProof.Rows hiding St signs inR
local macro_rules | `(tactic| walk_at "dl") => `(tactic| dsimp only [dSeq, dAsg, dgName, dVar, dC, dOp, dUn, dCB, dCons, dNil, dTup, dLst, dLstM, dNewK, dNewN, dRet, dRetN, dDrop, dIfS, dNext, dNever, dB, dAnd, dOr, dNot, dAndV, dOrV, dNotV, dIf, dMeth, dSl, dPart, dNoPart, dFor, dIter, dRange1, dRange2, dZip, dEnum, dLc, dLcM, dDc, dSortSet, dCall, dgSeq, dgSub, dgCons, dgNil, dPar, dAug, dBreak, dCont, dYes, endsD, slot, List.set_cons_zero, List.set_cons_succ, itemsD, listR, listRM, tupleR, viewL, viewS, DL.intOf, dwipe, setAll, Shape.bind])
local macro_rules | `(tactic| walk_at "op") => `(tactic| ((first | refine eqR_int ?_ | refine eqR_str ?_ | refine eqR_bl ?_ | refine neR_int ?_ | refine neR_str ?_ | refine ltR_int ?_ | refine leR_int ?_ | refine gtR_int ?_ | refine geR_int ?_ | refine addR_int ?_ | refine addR_str ?_ ?_ | refine iaddR_int ?_ | refine subR_int ?_ | refine isNR_q ?_ | refine notNR_q ?_ | refine lenR_lst ?_ | refine lenR_tup ?_ | refine intCR_int ?_ | refine intCR_bl ?_ | refine absR_int ?_); (try dsimp only)))
/-! the pool -/
def PS (L : Store) : Prop := ∃ (gs : List Int) (a : Nat) (m : Int), L = [.lst (gs.map D.int), .lst [.ref 0, .int a, .int m]]
theorem PS.len {L : Store} (h : PS L) : L.length = 2 := by
  obtain ⟨gs, a, m, rfl⟩ := h
  rfl
theorem int_bel {n : Nat} (l : List Int) : belows n (l.map D.int) := belows_iff.mpr fun d hd => by
  obtain ⟨x, _, rfl⟩ := List.mem_map.mp hd
  trivial
theorem PS.bel {L : Store} (h : PS L) : ∀ o ∈ L, o.bel L.length := by
  obtain ⟨gs, a, m, rfl⟩ := h
  intro o ho
  rcases List.mem_cons.mp ho with rfl | ho
  · exact int_bel _
  · rcases List.mem_singleton.mp ho with rfl
    exact ⟨(by show 0 < 2; decide), trivial, trivial, trivial⟩
/-- what a def hands back that has changed the pool: L' for L -/
theorem RetOk.pool {L L' G : Store} {d d' : D} {Q : DK} (h : PS L) (h' : PS L') (hz : Fz (L' ++ G) 2 d d') (q : Q d' L') : RetOk L d (L' ++ G) Q := by
  have e := h'.len
  exact .cut (by rw [h.len, e]; exact Nat.le_refl _) h'.bel (by rw [e]; exact hz) q
theorem RetOk.pool0 {L L' : Store} {d : D} {Q : DK} (q : Q d L') : RetOk L d L' Q := .inl q
def sp_u_law_pool : DSp := fun ds M Q => ∃ ns : List Int, ds = [.lst (ns.map D.int)] ∧ M = [] ∧ ns.length ≤ 63 ∧ ∀ M', PS M' → Q (.ref 1) M'
theorem dat_u_law_pool (ds : List D) (M : Store) (Q : DK) (h : sp_u_law_pool ds M Q) : t_u_law_pool (endsD M Q) (startD 5 ds) M := by
  obtain ⟨ns, rfl, rfl, hn, q⟩ := h
  show t_u_law_pool (endsD [] Q) [some (.lst (ns.map D.int)), none, none, none, none] []
  unfold t_u_law_pool
  walk_at "dl"
  refine ⟨Nat.zero_le _, ?_⟩
  refine lenR_lst (addR_int ?_)
  try dsimp only
  refine for_inv (fun i ρ M' => ∃ (m : Int) (gs : List Int) (a b : Option D), ρ = [some (.lst (ns.map D.int)), some (.ref 0), some (.int m), a, b] ∧ M' = [.lst (gs.map D.int)] ∧ gs.length ≤ i) ⟨_, [], none, none, rfl, rfl, Nat.le_refl _⟩ ?_ ?_
  · rintro i x ρ M' ex ⟨m, gs, a, b, rfl, rfl, hg⟩
    rw [List.getElem?_map] at ex
    obtain ⟨z, ez, rfl⟩ := Option.map_eq_some_iff.mp ex
    have hi : i < ns.length := (List.getElem?_eq_some_iff.mp ez).1
    refine ⟨by rfl, fun go k => ?_⟩
    walk_at "dl"
    refine absR_int ?_
    try dsimp only
    generalize (if z < 0 then -z else z) = sz
    refine powR_int (by unfold CPow; decide) ?_
    refine geR_int ?_
    try dsimp only
    have fin : ∀ gs' : List Int, gs'.length ≤ i + 1 → intCR [.int m] [.lst (gs'.map D.int)] fun x M1 => mulR x (.int 57829) M1 fun x M1 => intCR [.int sz] M1 fun x_1 M1 => modR x_1 (.int 2147483477) M1 fun y M1 => addR x y M1 fun x M1 =>
        ltR (.int z) (.int 0) M1 fun x_2 M1 => intCR [x_2] M1 fun y M1 => mulR (.int 19) y M1 fun y M1 => addR x y M1 fun x M1 => addR x (.int 9) M1 fun x M1 => modR x (.int 2147483477) M1 fun d M1 =>
        DL.TurnOk [MO.lst (gs.map D.int)] [some (.lst (ns.map D.int)), some (.ref 0), some d, some (.int z), some (.int sz)] M1 go := fun gs' hg' => by
      refine intCR_int (mulR_int (.inr ⟨by decide, by decide⟩) (intCR_int (modR_int (by decide) (addR_int (ltR_int (intCR_bl (mulR_int (.inl ⟨by decide, by decide⟩) (addR_int (addR_int (modR_int (by decide) ?_))))))))))
      exact .inl (k _ _ ⟨_, gs', _, _, rfl, rfl, hg'⟩)
    refine ite_dec (fun h => ?_) (fun h => ?_)
    · refine ⟨tyM_lst (ds := gs.map D.int) rfl, ?_⟩
      refine append_cell (ds := gs.map D.int) rfl (by rw [List.length_map]; exact small (by omega)) ?_
      have := fin (gs ++ [sz]) (by rw [List.length_append, List.length_singleton]; omega)
      rw [List.map_append] at this
      exact this
    · exact fin gs (by omega)
  · rintro ρ M' ⟨m, gs, a, b, rfl, rfl, hg⟩
    refine ⟨by rfl, ?_⟩
    walk_at "dl"
    exact ⟨(by show 3 ≤ sizeLine; decide), .inl (q _ ⟨gs, 0, m, rfl⟩)⟩
def sp_u_law_draw : DSp := fun ds M Q => ∃ (L rest : Store) (many : Nat), ds = [.ref 1, .int many] ∧ M = L ++ rest ∧ PS L ∧ many < 1073741824 ∧ ∀ (v : Nat) (L' : Store), PS L' → v < max many 1 → Q (.int v) (L' ++ rest)
theorem fmod_nat {x : Int} {n : Nat} (h : 0 < n) : ∃ v : Nat, x.fmod n = v ∧ v < n := by
  have h1 : 0 ≤ x.fmod n := Int.fmod_nonneg_of_pos x (by omega)
  have h2 : x.fmod n < n := Int.fmod_lt_of_pos x (by omega)
  exact ⟨(x.fmod n).toNat, by omega, by omega⟩
theorem dat_u_law_draw (ds : List D) (M : Store) (Q : DK) (h : sp_u_law_draw ds M Q) : t_u_law_draw (endsD M Q) (startD 5 ds) M := by
  obtain ⟨L, rest, many, rfl, rfl, ⟨gs, a, m, rfl⟩, hm, q⟩ := h
  show t_u_law_draw (endsD _ Q) [some (.ref 1), some (.int many), none, none, none] _
  unfold t_u_law_draw
  walk_at "dl"
  refine ltR_int ?_
  try dsimp only
  refine ite_dec (fun h => ?_) (fun h => ?_)
  · exact .inl (q 0 _ ⟨gs, a, m, rfl⟩ (by omega))
  have h2 : 2 ≤ many := by omega
  refine ixR_cell (n := 0) (ds := [.ref 0, .int a, .int m]) rfl rfl ?_
  refine ixR_cell (n := 1) (ds := [.ref 0, .int a, .int m]) rfl rfl ?_
  refine lenR_cell (ds := gs.map D.int) rfl ?_
  refine ltR_int ?_
  try dsimp only
  rw [List.length_map]
  refine ite_dec (fun h => ?_) (fun h => ?_)
  · have ha : a < gs.length := by omega
    have ex : gs[a]? = some gs[a] := List.getElem?_eq_getElem ha
    refine ixR_cell (n := 1) (ds := [.ref 0, .int a, .int m]) rfl rfl ?_
    refine ixR_cell (ds := gs.map D.int) rfl (by rw [List.getElem?_map, ex]; rfl) ?_
    refine intCR_int ?_
    try dsimp only
    refine fdivR_int ⟨by omega, by omega⟩ ?_
    try dsimp only
    refine ixR_cell (n := 1) (ds := [.ref 0, .int a, .int m]) rfl rfl ?_
    refine setR_lst (ds := gs.map D.int) rfl (by rw [List.length_map]; exact ha) ?_
    refine ltR_int ?_
    try dsimp only
    have es : (gs.map D.int).set a (.int (gs[a].fdiv many)) = (gs.set a (gs[a].fdiv many)).map D.int := by rw [List.map_set]
    rw [es]
    obtain ⟨v, ev, hv⟩ := fmod_nat (x := gs[a]) (n := many) (by omega)
    refine ite_dec (fun h => ?_) (fun h => ?_)
    · refine ixR_cell (n := 1) (ds := [.ref 0, .int a, .int m]) rfl rfl ?_
      refine addR_int ?_
      try dsimp only
      refine setR_lst (j := 1) (ds := [.ref 0, .int a, .int m]) rfl (by show 1 < 3; decide) ?_
      refine intCR_int (modR_int (by omega) ?_)
      rw [ev]
      exact .inl (q v [.lst ((gs.set a (gs[a].fdiv many)).map D.int), .lst [.ref 0, .int ((a + 1 : Nat) : Int), .int m]] ⟨_, a + 1, m, rfl⟩ (by omega))
    · refine intCR_int (modR_int (by omega) ?_)
      rw [ev]
      exact .inl (q v [.lst ((gs.set a (gs[a].fdiv many)).map D.int), .lst [.ref 0, .int a, .int m]] ⟨_, a, m, rfl⟩ (by omega))
  · refine ixR_cell (n := 2) (ds := [.ref 0, .int a, .int m]) rfl rfl ?_
    refine intCR_int (mulR_int (.inr ⟨by decide, by decide⟩) (addR_int (modR_int (by decide) ?_)))
    try dsimp only
    generalize Int.fmod _ _ = m'
    refine setR_lst (j := 2) (ds := [.ref 0, .int a, .int m]) rfl (by show 2 < 3; decide) ?_
    refine mulR_int (.inr ⟨by decide, by decide⟩) (fdivR_int ⟨by decide, by decide⟩ (addR_int (intCR_int (modR_int (by decide) (fdivR_int ⟨by decide, by decide⟩ (modR_int (by omega) ?_))))))
    obtain ⟨v, ev, hv⟩ := fmod_nat (x := ((m' * 8009 + m'.fdiv 16363).fmod 1000151).fdiv 16) (n := many) (by omega)
    rw [ev]
    exact .inl (q v [.lst (gs.map D.int), .lst [.ref 0, .int a, .int m']] ⟨_, a, m', rfl⟩ (by omega))
theorem erase_map {α β : Type} (f : α → β) : ∀ (l : List α) (n : Nat), (l.map f).eraseIdx n = (l.eraseIdx n).map f
  | [], n => rfl
  | x :: l, 0 => rfl
  | x :: l, n + 1 => by
    show f x :: (l.map f).eraseIdx n = f x :: (l.eraseIdx n).map f
    rw [erase_map f l n]
def alpha : List Str := signs "sStTuUvVwWxXyYzZaAbBcCdDeEfFgGhHiIjJkKlLmMnNoOpPqQrR"
theorem alpha_len : alpha.length = 52 := by decide +kernel
theorem alpha_nd : alpha.Nodup := by decide +kernel
theorem alpha_ok : ∀ c ∈ alpha, PyData.strOk c = true := by decide +kernel
/-- n letters, each once, rising -/
def LetOk (z : Str) (n : Nat) : Prop := (signs z).length = n ∧ (signs z).Nodup ∧ (signs z).Pairwise (fun a b => leS a b = true) ∧ PyData.strOk z = true
theorem LetOk.len {z : Str} {n : Nat} (h : LetOk z n) : z.length = n := by rw [DL.len_signs]; exact h.1
def sp_u_law_letters : DSp := fun ds M Q => ∃ many : Nat, ds = [.ref 1, .int many] ∧ PS M ∧ many ≤ 26 ∧ ∀ (z : Str) (M' : Store), PS M' → LetOk z many → Q (.str z) M'
theorem dat_u_law_letters (ds : List D) (M : Store) (Q : DK) (h : sp_u_law_letters ds M Q) : t_u_law_letters sp_u_law_draw (endsD M Q) (startD 5 ds) M := by
  obtain ⟨many, rfl, ⟨gs, a, m, rfl⟩, hm, q⟩ := h
  show t_u_law_letters _ (endsD _ Q) [some (.ref 1), some (.int many), none, none, none] _
  unfold t_u_law_letters
  walk_at "dl"
  rw [if_pos (small' (by decide +kernel))]
  walk_at "dl"
  refine ⟨Nat.zero_le _, by omega, by omega, ?_⟩
  try dsimp only
  rw [Int.toNat_natCast]
  refine for_inv (fun i ρ M' => ∃ (L : Store) (left picked : List Str) (x : Option D), ρ = [some (.ref 1), some (.int many), some (.ref 2), some (.ref 3), x] ∧ PS L ∧ M' = L ++ [.lst (left.map D.str), .lst (picked.map D.str)] ∧ (picked ++ left).Perm alpha ∧ picked.length = i)
    ⟨_, alpha, [], none, rfl, ⟨gs, a, m, rfl⟩, rfl, List.Perm.refl _, rfl⟩ ?_ ?_
  · rintro i x ρ M' ex ⟨L, left, picked, x', rfl, hL, rfl, pm, hp⟩
    obtain ⟨rfl, hi⟩ := range_item ex
    have hlen := pm.length_eq
    rw [alpha_len, List.length_append] at hlen
    refine ⟨trivial, fun go k => ?_⟩
    obtain ⟨gs, a, m, rfl⟩ := hL
    walk_at "dl"
    refine ⟨tyM_lst (ds := picked.map D.str) rfl, tyM_lst (ds := left.map D.str) rfl, ?_⟩
    refine lenR_cell (ds := left.map D.str) rfl ?_
    rw [List.length_map]
    refine ⟨_, [.lst (left.map D.str), .lst (picked.map D.str)], left.length, rfl, rfl, ⟨gs, a, m, rfl⟩, by omega, fun v L' hL' hv => ?_⟩
    obtain ⟨gs', a', m', rfl⟩ := hL'
    have hvl : v < left.length := by omega
    have ev : left[v]? = some left[v] := List.getElem?_eq_getElem hvl
    refine pop_cell (ds := left.map D.str) rfl (by rw [List.getElem?_map, ev]; rfl) (by rw [List.length_map]; exact small' (by omega)) ?_
    refine append_cell (ds := picked.map D.str) rfl (by rw [List.length_map]; exact small (by omega)) ?_
    refine .inl (k _ _ ⟨[.lst (gs'.map D.int), .lst [.ref 0, .int a', .int m']], left.eraseIdx v, picked ++ [left[v]], _, rfl, ⟨gs', a', m', rfl⟩, ?_, ?_, by rw [List.length_append, List.length_singleton, hp]⟩)
    · show [MO.lst (gs'.map D.int), .lst [.ref 0, .int a', .int m'], .lst ((left.map D.str).eraseIdx v), .lst (picked.map D.str ++ [D.str left[v]])] = _
      rw [List.map_append, erase_map]
      rfl
    · rw [List.append_assoc]
      exact (List.Perm.append_left picked (erase_perm left v left[v] ev)).trans pm
  · rintro ρ M' ⟨L, left, picked, x', rfl, hL, rfl, pm, hp⟩
    refine ⟨trivial, ?_⟩
    rw [range_len] at hp
    have hL' := hL
    obtain ⟨gs', a', m', rfl⟩ := hL'
    have sub : ∀ c ∈ picked, c ∈ alpha := fun c hc => pm.mem_iff.mp (List.mem_append_left _ hc)
    have nd : picked.Nodup := (List.nodup_append.mp (pm.nodup_iff.mpr alpha_nd)).1
    have one : ∀ c ∈ sortS picked, One c := fun c hc => signs_one (sub c (sortS_mem.mp hc))
    walk_at "dl"
    refine ⟨rfl, ?_⟩
    refine sorted_strs (srcD_cell (ds := picked.map D.str) rfl) (small' (by omega)) ?_
    try dsimp only
    refine joinR_at rfl (by rw [ones_sum one, sortS_len]; omega) ?_
    refine K.RetOk.pool ⟨gs, a, m, rfl⟩ hL (.keep trivial) (q _ _ hL ?_)
    have es := signs_join_one one
    refine ⟨by rw [es, sortS_len]; exact hp, by rw [es]; exact sortS_nodup nd, by rw [es]; exact sortS_pair _, ?_⟩
    rw [strOk_signs, es]
    exact fun c hc => alpha_ok c (sub c (sortS_mem.mp hc))
/-! words -/
def In (S : List Str) (w : Str) : Prop := ∀ c ∈ signs w, c ∈ S
theorem In.app {S : List Str} {a b : Str} (h1 : In S a) (h2 : In S b) : In S (a ++ b) := fun c hc => by
  rw [signs_app] at hc
  rcases List.mem_append.mp hc with h | h
  · exact h1 c h
  · exact h2 c h
theorem In.ok {z w : Str} (h : In (signs z) w) (hz : PyData.strOk z = true) : PyData.strOk w = true := strOk_signs.mpr fun c hc => strOk_signs.mp hz c (h c hc)
/-- [letters[draw(len(letters))] for lap in range(n)] : n letters -/
theorem picks {z : Str} {n kk : Nat} {L0 : Store} {ρ : Env'} {Q : List D → Store → Prop} (hz : 1 ≤ z.length) (hz2 : z.length ≤ 1000) (hL0 : PS L0) (hn : n ≤ 1000) (h0 : slot (dwipe ρ [kk]) 0 = some (.ref 1)) (h1 : slot (dwipe ρ [kk]) 1 = some (.str z)) (h2 : 2 ≤ kk)
    (fin : ∀ (ys : List Str) (L : Store), PS L → ys.length = n → (∀ y ∈ ys, y ∈ signs z) → Q (ys.map D.str) L) :
    lcGo (.one kk) [kk] (fun _ => True) dYes (dOp ixR (dVar 1) (dCall sp_u_law_draw (dCons (dVar 0) (dCons (dCB lenR (dCons (dVar 1) dNil)) dNil)))) ρ (rangeD 0 n) L0 [] Q := by
  have sl : ∀ (ρ : Env') (d : D) (j : Nat), j < kk → slot (ρ.set kk (some d)) j = slot ρ j := fun ρ d j hj => by
    induction ρ generalizing j kk with
    | nil => rfl
    | cons x r ih =>
      cases kk with
      | zero => omega
      | succ kk =>
        cases j with
        | zero => rfl
        | succ j =>
          clear ih
          show slot (r.set kk (some d)) j = slot r j
          have gen : ∀ (r : Env') (kk j : Nat), j < kk → slot (r.set kk (some d)) j = slot r j := fun r => by
            induction r with
            | nil => intro kk j _; rfl
            | cons x r ih =>
              intro kk j hj
              cases kk with
              | zero => omega
              | succ kk => cases j with
                | zero => rfl
                | succ j => exact ih kk j (by omega)
          exact gen r kk j (by omega)
  refine lc_inv (fun i M acc => PS M ∧ ∃ ys : List Str, acc = ys.map D.str ∧ ys.length = i ∧ ∀ y ∈ ys, y ∈ signs z) ⟨hL0, [], rfl, rfl, fun y hy => by cases hy⟩ (fun i x M acc ex h => ?_) fun M acc h => ?_
  · obtain ⟨hL, ys, rfl, hl, hy⟩ := h
    obtain ⟨rfl, hi⟩ := range_item ex
    refine ⟨trivial, _, rfl, fun go k => ?_⟩
    unfold dYes
    dsimp only
    rw [if_pos rfl]
    dsimp only [dOp, dVar, dCall, dCons, dCB, dNil]
    rw [sl _ _ 1 (by omega), sl _ _ 0 (by omega), h1, h0]
    dsimp only
    refine lenR_str (small' (by omega)) ?_
    refine ⟨M, [], z.length, rfl, (List.append_nil _).symm, hL, by omega, fun v L' hL' hv => ?_⟩
    rw [List.append_nil]
    have hv2 : v < (signs z).length := by rw [← DL.len_signs]; omega
    have ev : (signs z)[v]? = some (signs z)[v] := List.getElem?_eq_getElem hv2
    refine ixR_sign (small' (by omega)) ev ⟨by rw [List.length_map]; exact small (by omega), k _ _ ⟨hL', ys ++ [(signs z)[v]], by rw [List.map_append]; rfl, by rw [List.length_append, List.length_singleton, hl], fun y hy' => ?_⟩⟩
    rcases List.mem_append.mp hy' with h | h
    · exact hy y h
    · rw [List.mem_singleton.mp h]
      exact List.getElem_mem _
  · obtain ⟨hL, ys, rfl, hl, hy⟩ := h
    rw [range_len] at hl
    exact ⟨trivial, fin ys M hL hl hy⟩
theorem draw_at {M : Store} {many : Nat} {Q : DK} (h : PS M) (hm : many < 1073741824) (k : ∀ (v : Nat) (L' : Store), PS L' → v < max many 1 → Q (.int v) L') : sp_u_law_draw [.ref 1, .int many] M Q :=
  ⟨M, [], many, rfl, (List.append_nil _).symm, h, hm, fun v L' hL hv => by rw [List.append_nil]; exact k v L' hL hv⟩
def LetsOk (z : Str) : Prop := 1 ≤ z.length ∧ z.length ≤ 26 ∧ PyData.strOk z = true
theorem fdiv_small {a b : Nat} (h : 0 < b) : ∃ k : Nat, ((a : Nat) : Int).fdiv ((b : Nat) : Int) = k ∧ k ≤ a := by
  refine ⟨a / b, ?_, Nat.div_le_self _ _⟩
  rw [Int.fdiv_eq_ediv_of_nonneg _ (by omega)]
  rfl
theorem ddS_mem {c : Str} : ∀ {r l : List Str}, c ∈ ddS l r → c ∈ l ∨ c ∈ r
  | [], l, h => .inl h
  | k :: r, l, h => by
    have h : c ∈ ddS (if k ∈ l then l else k :: l) r := h
    rcases ddS_mem h with h | h
    · split at h
      · exact .inl h
      · rcases List.mem_cons.mp h with z | z
        · exact .inr (by rw [z]; exact List.mem_cons_self ..)
        · exact .inl z
    · exact .inr (List.mem_cons_of_mem _ h)
/-! the wide corpus -/
theorem lc_signs {sh : Shape} {vs : List Nat} {keep : Store → Prop} {te : DTE} {ρ : Env'} {Q : List D → Store → Prop} {M : Store} {z : Str} {xs : List D} (kp : keep M) (hl : xs.length ≤ 1000)
    (step : ∀ x ∈ xs, ∃ ρ2, sh.bind x (dwipe ρ vs) = some ρ2 ∧ ∃ c ∈ signs z, ∀ K : DK, K (.str c) M → te ρ2 M K) (fin : ∀ ys : List Str, ys.length = xs.length → (∀ y ∈ ys, y ∈ signs z) → Q (ys.map D.str) M) : lcGo sh vs keep dYes te ρ xs M [] Q := by
  refine lc_inv (fun i M' acc => M' = M ∧ ∃ ys : List Str, acc = ys.map D.str ∧ ys.length = i ∧ ∀ y ∈ ys, y ∈ signs z) ⟨rfl, [], rfl, rfl, fun y hy => by cases hy⟩ (fun i x M' acc ex h => ?_) fun M' acc h => ?_
  · obtain ⟨rfl, ys, rfl, hys, hy⟩ := h
    have hi : i < xs.length := (List.getElem?_eq_some_iff.mp ex).1
    obtain ⟨ρ2, eb, c, hc, st⟩ := step x (List.mem_of_getElem? ex)
    refine ⟨kp, ρ2, eb, fun go k => ?_⟩
    unfold dYes
    dsimp only
    rw [if_pos rfl]
    refine st _ ⟨by rw [List.length_map]; exact small (by omega), k _ _ ⟨rfl, ys ++ [c], by rw [List.map_append]; rfl, by rw [List.length_append, List.length_singleton, hys], fun y hy' => ?_⟩⟩
    rcases List.mem_append.mp hy' with h | h
    · exact hy y h
    · rw [List.mem_singleton.mp h]
      exact hc
  · obtain ⟨rfl, ys, rfl, hys, hy⟩ := h
    exact ⟨kp, fin ys hys hy⟩
theorem sign_of {z : Str} {M : Store} {x : Int} {p n : Nat} (hp : 0 < p) (hp2 : p < 1000) (hn : 0 < n) (hz : n ≤ z.length) (hz2 : z.length ≤ 1000) : ∃ c ∈ signs z, ∀ K : DK, K (.str c) M → fdivR (.int x) (.int (p : Nat)) M fun y M1 => modR y (.int (n : Nat)) M1 fun y M1 => ixR (.str z) y M1 K := by
  obtain ⟨v, ev, hv⟩ := fmod_nat (x := x.fdiv (p : Nat)) (n := n) hn
  have hv2 : v < (signs z).length := by rw [← DL.len_signs]; omega
  have ei : (signs z)[v]? = some (signs z)[v] := List.getElem?_eq_getElem hv2
  refine ⟨(signs z)[v], List.getElem_mem _, fun K k => fdivR_int ⟨by omega, by omega⟩ (modR_int (by omega) ?_)⟩
  rw [ev]
  exact ixR_sign (small' (by omega)) ei k
theorem join_ok {z : Str} {ys : List Str} (hy : ∀ y ∈ ys, y ∈ signs z) : (Txt.join ⟨#[]⟩ ys).length = ys.length ∧ In (signs z) (Txt.join ⟨#[]⟩ ys) ∧ (ys.map (·.length)).sum = ys.length := by
  have one : ∀ y ∈ ys, One y := fun y h => signs_one (hy y h)
  have es := signs_join_one one
  exact ⟨by rw [DL.len_signs, es], fun c hc => by rw [es] at hc; exact hy c hc, ones_sum one⟩
/-- [letters[draw(len(letters))] for lap in range(n)] : n letters -/
theorem picksR {z : Str} {n kk : Nat} {L0 rest : Store} {ρ : Env'} {Q : List D → Store → Prop} (hz : 1 ≤ z.length) (hz2 : z.length ≤ 1000) (hL0 : PS L0) (hn : n ≤ 1000) (h0 : slot (dwipe ρ [kk]) 0 = some (.ref 1)) (h1 : slot (dwipe ρ [kk]) 1 = some (.str z)) (h2 : 2 ≤ kk)
    (fin : ∀ (ys : List Str) (L : Store), PS L → ys.length = n → (∀ y ∈ ys, y ∈ signs z) → Q (ys.map D.str) (L ++ rest)) :
    lcGo (.one kk) [kk] (fun _ => True) dYes (dOp ixR (dVar 1) (dCall sp_u_law_draw (dCons (dVar 0) (dCons (dCB lenR (dCons (dVar 1) dNil)) dNil)))) ρ (rangeD 0 n) (L0 ++ rest) [] Q := by
  have sl : ∀ (ρ : Env') (d : D) (j : Nat), j < kk → slot (ρ.set kk (some d)) j = slot ρ j := fun ρ d j hj => by
    induction ρ generalizing j kk with
    | nil => rfl
    | cons x r ih =>
      cases kk with
      | zero => omega
      | succ kk =>
        cases j with
        | zero => rfl
        | succ j =>
          clear ih
          show slot (r.set kk (some d)) j = slot r j
          have gen : ∀ (r : Env') (kk j : Nat), j < kk → slot (r.set kk (some d)) j = slot r j := fun r => by
            induction r with
            | nil => intro kk j _; rfl
            | cons x r ih =>
              intro kk j hj
              cases kk with
              | zero => omega
              | succ kk => cases j with
                | zero => rfl
                | succ j => exact ih kk j (by omega)
          exact gen r kk j (by omega)
  refine lc_inv (fun i M acc => ∃ L, PS L ∧ M = L ++ rest ∧ ∃ ys : List Str, acc = ys.map D.str ∧ ys.length = i ∧ ∀ y ∈ ys, y ∈ signs z) ⟨L0, hL0, rfl, [], rfl, rfl, fun y hy => by cases hy⟩ (fun i x M acc ex h => ?_) fun M acc h => ?_
  · obtain ⟨L, hL, rfl, ys, rfl, hl, hy⟩ := h
    obtain ⟨rfl, hi⟩ := range_item ex
    refine ⟨trivial, _, rfl, fun go k => ?_⟩
    unfold dYes
    dsimp only
    rw [if_pos rfl]
    dsimp only [dOp, dVar, dCall, dCons, dCB, dNil]
    rw [sl _ _ 1 (by omega), sl _ _ 0 (by omega), h1, h0]
    dsimp only
    refine lenR_str (small' (by omega)) ?_
    refine ⟨L, rest, z.length, rfl, rfl, hL, by omega, fun v L' hL' hv => ?_⟩
    have hv2 : v < (signs z).length := by rw [← DL.len_signs]; omega
    have ev : (signs z)[v]? = some (signs z)[v] := List.getElem?_eq_getElem hv2
    refine ixR_sign (small' (by omega)) ev ⟨by rw [List.length_map]; exact small (by omega), k _ _ ⟨L', hL', rfl, ys ++ [(signs z)[v]], by rw [List.map_append]; rfl, by rw [List.length_append, List.length_singleton, hl], fun y hy' => ?_⟩⟩
    rcases List.mem_append.mp hy' with h | h
    · exact hy y h
    · rw [List.mem_singleton.mp h]
      exact List.getElem_mem _
  · obtain ⟨L, hL, rfl, ys, rfl, hl, hy⟩ := h
    rw [range_len] at hl
    exact ⟨trivial, fin ys L hL hl hy⟩
end K

set_option Elab.async false
set_option linter.all false
set_option maxRecDepth 100000
set_option maxHeartbeats 2000000
namespace K
open PySem L2 DL
open PyProof.Rows hiding St signs inR
local macro_rules | `(tactic| walk_at "dl") => `(tactic| dsimp only [dSeq, dAsg, dgName, dVar, dC, dOp, dUn, dCB, dCons, dNil, dTup, dLst, dLstM, dNewK, dNewN, dRet, dRetN, dDrop, dIfS, dNext, dNever, dB, dAnd, dOr, dNot, dAndV, dOrV, dNotV, dIf, dMeth, dSl, dPart, dNoPart, dFor, dIter, dRange1, dRange2, dZip, dEnum, dLc, dLcM, dDc, dSortSet, dCall, dgSeq, dgSub, dgCons, dgNil, dPar, dAug, dBreak, dCont, dYes, endsD, slot, List.set_cons_zero, List.set_cons_succ, itemsD, listR, listRM, tupleR, viewL, viewS, DL.intOf, dwipe, setAll, Shape.bind])
local macro_rules | `(tactic| walk_at "op") => `(tactic| ((first | refine eqR_int ?_ | refine eqR_str ?_ | refine eqR_bl ?_ | refine neR_int ?_ | refine neR_str ?_ | refine ltR_int ?_ | refine leR_int ?_ | refine gtR_int ?_ | refine geR_int ?_ | refine addR_int ?_ | refine addR_str ?_ ?_ | refine iaddR_int ?_ | refine subR_int ?_ | refine isNR_q ?_ | refine notNR_q ?_ | refine lenR_lst ?_ | refine lenR_tup ?_ | refine intCR_int ?_ | refine intCR_bl ?_ | refine absR_int ?_); (try dsimp only)))
/-! k88: the margin, in plain terms -/
abbrev Mg := Int × Option Int
def narrowM (m : Mg) (s b : Int) : Mg :=
  (if 0 < s then max m.1 (-(b.fdiv s)) else m.1,
   if s < 0 then (match m.2 with | none => some (b.fdiv (-s)) | some h => if b.fdiv (-s) < h then some (b.fdiv (-s)) else some h) else m.2)
def Sat (m : Mg) (c : Int) : Prop := m.1 ≤ c ∧ ∀ h, m.2 = some h → c ≤ h
theorem narrow_sat {m : Mg} {s b c c0 : Int} (h0 : 0 ≤ s * c0 + b) : Sat (narrowM m s b) c ↔ Sat m c ∧ 0 ≤ s * c + b := by
  unfold Sat narrowM
  rcases Int.lt_trichotomy s 0 with hs | hs | hs
  · have e1 : ¬ 0 < s := by omega
    have e2 : ∀ h : Int, c ≤ b.fdiv (-s) ↔ 0 ≤ s * c + b := fun _ => by
      rw [Int.fdiv_eq_ediv_of_nonneg _ (by omega), Int.le_ediv_iff_mul_le (by omega), Int.mul_neg, Int.mul_comm c s]
      omega
    have e2 := e2 0
    simp only [if_neg e1, if_pos hs]
    cases hm : m.2 with
    | none => simp [e2]
    | some h =>
      simp only
      by_cases hl : b.fdiv (-s) < h
      · rw [if_pos hl]
        simp only [Option.some.injEq, forall_eq']
        rw [e2]
        constructor
        · intro ⟨a1, a2⟩
          exact ⟨⟨a1, by have := e2.mpr a2; omega⟩, a2⟩
        · intro ⟨⟨a1, _⟩, a2⟩
          exact ⟨a1, a2⟩
      · rw [if_neg hl]
        simp only [Option.some.injEq, forall_eq']
        constructor
        · intro ⟨a1, a2⟩
          exact ⟨⟨a1, a2⟩, e2.mp (by omega)⟩
        · intro ⟨a, _⟩
          exact a
  · subst hs
    simp
    intro _ _
    simpa using h0
  · have e1 : ¬ s < 0 := by omega
    have e2 : -(b.fdiv s) ≤ c ↔ 0 ≤ s * c + b := by
      rw [Int.fdiv_eq_ediv_of_nonneg _ (by omega)]
      have : -(b / s) ≤ c ↔ -c ≤ b / s := by omega
      rw [this, Int.le_ediv_iff_mul_le hs, Int.neg_mul, Int.mul_comm c s]
      omega
    simp only [if_pos hs, if_neg e1]
    rw [Int.max_le, e2]
    constructor
    · intro ⟨⟨a1, a2⟩, a3⟩
      exact ⟨⟨a1, a3⟩, a2⟩
    · intro ⟨⟨a1, a3⟩, a2⟩
      exact ⟨⟨a1, a2⟩, a3⟩
/-- the value of a key -/
def valF (f : F) (k : Pair) : Int := (aGet f k).getD 0
def ltP (p q : Pair) : Bool := PySem.W.dataLt (encP p) (encP q)
def gapP (o q : Pair) : Int := if ltP o q then 1 else 0
theorem pick_spec (f : F) : ∀ (ks : List Pair) (bm : Option Pair × Int), (ks.foldl (pickStep f) bm = bm ∧ ∀ k ∈ ks, valF f k ≤ bm.2) ∨
    ∃ l1 q l2, ks = l1 ++ q :: l2 ∧ ks.foldl (pickStep f) bm = (some q, valF f q) ∧ bm.2 < valF f q ∧ (∀ o ∈ l1, valF f o < valF f q) ∧ ∀ o ∈ l2, valF f o ≤ valF f q
  | [], bm => .inl ⟨rfl, fun k hk => by cases hk⟩
  | k :: r, bm => by
    by_cases h : bm.2 < valF f k
    · have e : pickStep f bm k = (some k, valF f k) := if_pos h
      rw [List.foldl_cons, e]
      rcases pick_spec f r (some k, valF f k) with ⟨e1, a⟩ | ⟨l1, q, l2, e1, e2, a, b, c⟩
      · exact .inr ⟨[], k, r, rfl, e1, h, fun o ho => (by cases ho), a⟩
      · exact .inr ⟨k :: l1, q, l2, by rw [e1]; rfl, e2, Int.lt_trans h a, fun o ho => (List.mem_cons.mp ho).elim (fun e => e ▸ a) (b o), c⟩
    · have e : pickStep f bm k = bm := if_neg h
      rw [List.foldl_cons, e]
      rcases pick_spec f r bm with ⟨e1, a⟩ | ⟨l1, q, l2, e1, e2, a, b, c⟩
      · exact .inl ⟨e1, fun o ho => (List.mem_cons.mp ho).elim (fun e => e ▸ Int.not_lt.mp h) (a o)⟩
      · exact .inr ⟨k :: l1, q, l2, by rw [e1]; rfl, e2, a, fun o ho => (List.mem_cons.mp ho).elim (fun e => e ▸ (Int.lt_of_le_of_lt (Int.not_lt.mp h) a)) (b o), c⟩
/-! order -/
theorem toks_P (p : Pair) : PySem.W.keyToks (encP p) = [.inl 1, .inr p.1.cps.toList, .inl 1, .inr p.2.cps.toList, .inl 0] := by
  simp only [encP, PySem.W.keyToks, PySem.W.keyToksAll, List.cons_append, List.nil_append]
theorem toksP_inj {p q : Pair} (h : PySem.W.keyToks (encP p) = PySem.W.keyToks (encP q)) : p = q := by
  rw [toks_P, toks_P] at h
  simp only [List.cons.injEq, Sum.inr.injEq, true_and, and_true] at h
  exact Prod.ext (PySem.W.str_of_cps h.1) (PySem.W.str_of_cps h.2)
theorem ltP_irr (p : Pair) : ltP p p = false := lex_irrefl _
theorem ltP_trans {p q r : Pair} (h1 : ltP p q = true) (h2 : ltP q r = true) : ltP p r = true := lex_trans _ _ _ h1 h2
theorem ltP_tri {p q : Pair} (h1 : ltP p q = false) (h2 : ltP q p = false) : p = q := toksP_inj (lex_total _ _ h1 h2)
theorem leP_lt (p q : Pair) : PySem.W.dataLe false encP p q = !ltP q p := by
  rw [PySem.W.dataLe_eq]
  rfl
theorem sortP_sorted (ks : List Pair) : (sortP ks).Pairwise fun p q => ltP q p = false := by
  have h := List.pairwise_mergeSort (le := PySem.W.dataLe false encP) (fun a b c h1 h2 => by
    rw [leP_lt] at h1 h2 ⊢
    simp only [Bool.not_eq_true'] at h1 h2 ⊢
    cases e : ltP c a with
    | false => rfl
    | true =>
      cases e2 : ltP a b with
      | false => rw [ltP_tri e2 h1] at e; rw [e] at h2; cases h2
      | true => rw [ltP_trans e e2] at h2; cases h2) (fun a b => by
    rw [leP_lt, leP_lt]
    cases e : ltP b a with
    | false => rfl
    | true =>
      cases e2 : ltP a b with
      | false => rfl
      | true =>
        have := ltP_trans e e2
        rw [ltP_irr] at this
        cases this) ks
  exact h.imp fun h => by rw [leP_lt] at h; simpa using h
/-- what it takes to be chosen -/
def Right (f : F) : Option Pair → Prop
  | none => ∀ k ∈ f.map (·.1), valF f k ≤ 0
  | some q => q ∈ f.map (·.1) ∧ 1 ≤ valF f q ∧ ∀ o ∈ f.map (·.1), o ≠ q → valF f o + gapP o q ≤ valF f q
theorem chosen_right (f : F) (nd : (f.map (·.1)).Nodup) : Right f (chosen f) := by
  unfold chosen pickF
  have hs := sortP_sorted (f.map (·.1))
  have hn : (sortP (f.map (·.1))).Nodup := (List.mergeSort_perm _ _).nodup_iff.mpr nd
  rcases pick_spec f (sortP (f.map (·.1))) (none, 0) with ⟨e, a⟩ | ⟨l1, q, l2, e1, e2, a, b, c⟩
  · rw [e]
    exact fun k hk => a k (sortP_mem.mpr hk)
  · rw [e2]
    rw [e1] at hs hn
    refine ⟨sortP_mem.mp (by rw [e1]; simp), a, fun o ho hne => ?_⟩
    have ho : o ∈ l1 ++ q :: l2 := by rw [← e1]; exact sortP_mem.mpr ho
    rw [List.pairwise_append] at hs
    rcases List.mem_append.mp ho with h | h
    · have := b o h
      unfold gapP
      split <;> omega
    · rcases List.mem_cons.mp h with h | h
      · exact (hne h).elim
      · have h2 := (List.pairwise_cons.mp hs.2.1).1 o h
        have := c o h
        unfold gapP
        rw [h2]
        simpa using this
theorem right_uniq {f : F} {p q : Option Pair} (h1 : Right f p) (h2 : Right f q) : p = q := by
  cases p with
  | none =>
    cases q with
    | none => rfl
    | some q => have := h1 q h2.1; have := h2.2.1; omega
  | some p =>
    cases q with
    | none => have := h2 p h1.1; have := h1.2.1; omega
    | some q =>
      by_cases e : p = q
      · rw [e]
      · have a := h1.2.2 q h2.1 (Ne.symm e)
        have b := h2.2.2 p h1.1 e
        unfold gapP at a b
        cases e1 : ltP p q with
        | true => rw [e1] at b; simp at b; split at a <;> omega
        | false =>
          cases e2 : ltP q p with
          | true => rw [e2] at a; simp at a; split at b <;> omega
          | false => exact (e (ltP_tri e1 e2)).elim
theorem chosen_iff {f : F} (nd : (f.map (·.1)).Nodup) {p : Option Pair} : chosen f = p ↔ Right f p :=
  ⟨fun h => h ▸ chosen_right f nd, fun h => right_uniq (chosen_right f nd) h⟩
/-! counts are linear in the entry's count -/
theorem some_key {f : F} {k : Pair} : (aGet f k).isSome = true ↔ k ∈ f.map (·.1) := by
  constructor
  · intro h
    unfold aGet at h
    rw [Option.isSome_map] at h
    obtain ⟨x, hx⟩ := Option.isSome_iff_exists.mp h
    have h1 := List.find?_some hx
    exact List.mem_map.mpr ⟨x, List.mem_of_find?_eq_some hx, by simpa using h1⟩
  · intro h
    obtain ⟨v, e⟩ := aGet_key h
    rw [e]; rfl
theorem put_keys (f : F) (p : Pair) (v : Int) : (aPut f p v).map (·.1) = if p ∈ f.map (·.1) then f.map (·.1) else f.map (·.1) ++ [p] := by
  unfold aPut
  by_cases h : (aGet f p).isSome = true
  · rw [if_pos h, if_pos (some_key.mp h), List.map_map]
    refine List.map_congr_left fun x _ => ?_
    show (if x.1 = p then (x.1, v) else x).1 = x.1
    split <;> rfl
  · rw [if_neg h, if_neg (fun q => h (some_key.mpr q)), List.map_append]
    rfl
theorem aPut_keys {p : Pair} {v w : Int} {f g : F} (h : f.map (·.1) = g.map (·.1)) : (aPut f p v).map (·.1) = (aPut g p w).map (·.1) := by rw [put_keys, put_keys, h]
theorem aPut_nd {p : Pair} {v : Int} {f : F} (h : (f.map (·.1)).Nodup) : ((aPut f p v).map (·.1)).Nodup := by
  rw [put_keys]
  split
  · exact h
  · rename_i e
    rw [List.nodup_append]
    exact ⟨h, by simp, fun a ha b hb e2 => by simp only [List.mem_singleton] at hb; exact e (by rw [← hb, ← e2]; exact ha)⟩
theorem val_put (f : F) (p k : Pair) (v : Int) : valF (aPut f p v) k = if k = p then v else valF f k := by
  unfold valF
  rw [aGet_aPut]
  by_cases h : p = k
  · rw [if_pos h, if_pos h.symm]; rfl
  · rw [if_neg h, if_neg (Ne.symm h)]
structure L3 (c : Int) (fa fb fc : F) : Prop where
  kb : fb.map (·.1) = fa.map (·.1)
  kc : fc.map (·.1) = fa.map (·.1)
  nd : (fa.map (·.1)).Nodup
  val : ∀ k, valF fc k = valF fa k * c + valF fb k
theorem L3.bump {c a b : Int} {fa fb fc : F} (h : L3 c fa fb fc) (tk : Tk) (p : Pair) : L3 c (bump tk a fa p) (bump tk b fb p) (bump tk (a * c + b) fc p) := by
  unfold K.bump
  split
  · exact h
  · refine ⟨aPut_keys h.kb, aPut_keys h.kc, aPut_nd h.nd, fun k => ?_⟩
    have e := h.val k
    have e2 := h.val p
    unfold valF at e2
    rw [val_put, val_put, val_put]
    split
    · rw [e2, Int.add_mul]; omega
    · exact e
theorem L3.bumps {c a b : Int} (tk : Tk) : ∀ (l : List Pair) {fa fb fc : F}, L3 c fa fb fc → L3 c (l.foldl (K.bump tk a) fa) (l.foldl (K.bump tk b) fb) (l.foldl (K.bump tk (a * c + b)) fc)
  | [], _, _, _, h => h
  | p :: l, _, _, _, h => L3.bumps tk l (h.bump tk p)
abbrev Lin := List (List Str × Int × Int)
def ones (r : Lin) : Rcs := r.map fun x => (x.1, x.2.1)
def others (r : Lin) : Rcs := r.map fun x => (x.1, x.2.2)
def linAt (r : Lin) (c : Int) : Rcs := r.map fun x => (x.1, x.2.1 * c + x.2.2)
theorem L3.rows {c : Int} (tk : Tk) : ∀ (r : Lin) {fa fb fc : F}, L3 c fa fb fc → L3 c ((ones r).foldl (addRow tk) fa) ((others r).foldl (addRow tk) fb) ((linAt r c).foldl (addRow tk) fc)
  | [], _, _, _, h => h
  | x :: r, _, _, _, h => L3.rows tk r (h.bumps tk (pairsOf x.1))
theorem L3.count (c : Int) (tk : Tk) (r : Lin) : L3 c (countF tk (ones r)) (countF tk (others r)) (countF tk (linAt r c)) :=
  L3.rows tk r ⟨rfl, rfl, List.nodup_nil, fun k => by simp [valF, aGet]⟩
/-! one step of the margin -/
def stepM1 (p : Option Pair) (sl ba : F) (m : Mg) (o : Pair) : Mg :=
  match p with
  | none => narrowM m (-(valF sl o)) (-(valF ba o))
  | some q => if o = q then narrowM m (valF sl q) (valF ba q - 1) else narrowM m (valF sl q - valF sl o) (valF ba q - valF ba o - gapP o q)
def stepM (p : Option Pair) (sl ba : F) (m : Mg) : Mg := (sl.map (·.1)).foldl (stepM1 p sl ba) m
def con (p : Option Pair) (sl ba : F) (o : Pair) (c : Int) : Int :=
  match p with
  | none => -(valF sl o) * c + -(valF ba o)
  | some q => if o = q then valF sl q * c + (valF ba q - 1) else (valF sl q - valF sl o) * c + (valF ba q - valF ba o - gapP o q)
theorem step1_sat {p : Option Pair} {sl ba : F} {m : Mg} {o : Pair} {c c0 : Int} (h0 : 0 ≤ con p sl ba o c0) : Sat (stepM1 p sl ba m o) c ↔ Sat m c ∧ 0 ≤ con p sl ba o c := by
  unfold stepM1 con
  cases p with
  | none => exact narrow_sat h0
  | some q =>
    unfold con at h0
    by_cases e : o = q
    · simp only [if_pos e] at h0 ⊢
      exact narrow_sat h0
    · simp only [if_neg e] at h0 ⊢
      exact narrow_sat h0
theorem steps_sat {p : Option Pair} {sl ba : F} {c c0 : Int} : ∀ {ks : List Pair} {m : Mg}, (∀ o ∈ ks, 0 ≤ con p sl ba o c0) → (Sat (ks.foldl (stepM1 p sl ba) m) c ↔ Sat m c ∧ ∀ o ∈ ks, 0 ≤ con p sl ba o c)
  | [], m, _ => by simp
  | o :: ks, m, h => by
    rw [List.foldl_cons, steps_sat (ks := ks) fun o ho => h o (List.mem_cons_of_mem _ ho), step1_sat (h o (by simp)), List.forall_mem_cons, and_assoc]
theorem con_right {p : Option Pair} {sl ba f : F} {c : Int} (h : L3 c sl ba f) (hp : ∀ q, p = some q → q ∈ sl.map (·.1)) : (∀ o ∈ sl.map (·.1), 0 ≤ con p sl ba o c) ↔ Right f p := by
  unfold con
  cases p with
  | none =>
    unfold Right
    rw [h.kc]
    refine forall_congr' fun o => forall_congr' fun _ => ?_
    simp only
    rw [h.val o, Int.neg_mul]
    constructor <;> intro q <;> omega
  | some q =>
    unfold Right
    rw [h.kc]
    have hq := hp q rfl
    constructor
    · intro a
      have a1 := a q hq
      simp only [if_true] at a1
      refine ⟨hq, by rw [h.val q]; omega, fun o ho hne => ?_⟩
      have a2 := a o ho
      simp only [if_neg hne, Int.sub_mul] at a2
      rw [h.val q, h.val o]
      omega
    · intro ⟨_, a1, a2⟩ o ho
      by_cases e : o = q
      · simp only [if_pos e]
        rw [h.val q] at a1
        omega
      · have := a2 o ho e
        simp only [if_neg e, Int.sub_mul]
        rw [h.val q, h.val o] at this
        omega
def stepLin (p : Pair) (r : Lin) : Lin := r.map fun x => (joinedOnce p.1 p.2 x.1, x.2)
theorem linAt_step (p : Pair) (r : Lin) (c : Int) : linAt (stepLin p r) c = stepRows p (linAt r c) := by
  simp [linAt, stepLin, stepRows, List.map_map, Function.comp_def]
def margRun : Nat → Lin → Tk → Int → Mg → Mg
  | 0, _, _, _, m => m
  | n + 1, r, tk, c0, m => match chosen (countF tk (linAt r c0)) with
    | none => stepM none (countF tk (ones r)) (countF tk (others r)) m
    | some p => margRun n (stepLin p r) (aPut tk (p.1 ++ p.2) true) c0 (stepM (some p) (countF tk (ones r)) (countF tk (others r)) m)
theorem rules_step (n : Nat) (rcs : Rcs) (tk : Tk) : rulesOf (train (n + 1) rcs tk) = match chosen (countF tk rcs) with | none => [] | some p => p :: rulesOf (train n (stepRows p rcs) (aPut tk (p.1 ++ p.2) true)) := by
  show rulesOf ((chosen (countF tk rcs), countF tk rcs) :: match chosen (countF tk rcs) with | none => [] | some p => train n (stepRows p rcs) (aPut tk (p.1 ++ p.2) true)) = _
  cases chosen (countF tk rcs) with
  | none => rfl
  | some p => rfl
theorem stepM_sat (r : Lin) (tk : Tk) (c0 c : Int) (m : Mg) {p : Option Pair} (hp : chosen (countF tk (linAt r c0)) = p) : Sat (stepM p (countF tk (ones r)) (countF tk (others r)) m) c ↔ Sat m c ∧ chosen (countF tk (linAt r c)) = p := by
  have h0 := L3.count c0 tk r
  have h1 := L3.count c tk r
  have nd0 : ((countF tk (linAt r c0)).map (·.1)).Nodup := by rw [h0.kc]; exact h0.nd
  have nd1 : ((countF tk (linAt r c)).map (·.1)).Nodup := by rw [h1.kc]; exact h1.nd
  have r0 := (chosen_iff nd0).mp hp
  have hq : ∀ q, p = some q → q ∈ (countF tk (ones r)).map (·.1) := fun q e => by
    subst e
    rw [← h0.kc]
    exact r0.1
  unfold stepM
  rw [steps_sat ((con_right h0 hq).mpr r0), con_right h1 hq, chosen_iff nd1]
theorem margRun_sat : ∀ (n : Nat) (r : Lin) (tk : Tk) (c0 c : Int) (m : Mg), Sat (margRun n r tk c0 m) c ↔ Sat m c ∧ rulesOf (train n (linAt r c) tk) = rulesOf (train n (linAt r c0) tk)
  | 0, r, tk, c0, c, m => by simp [margRun, train]
  | n + 1, r, tk, c0, c, m => by
    rw [rules_step, rules_step]
    unfold margRun
    cases e : chosen (countF tk (linAt r c0)) with
    | none =>
      simp only
      rw [stepM_sat r tk c0 c m e]
      cases e2 : chosen (countF tk (linAt r c)) with
      | none => simp
      | some q => simp
    | some p =>
      simp only
      rw [margRun_sat n, stepM_sat r tk c0 c m e, linAt_step, linAt_step]
      cases e2 : chosen (countF tk (linAt r c)) with
      | none => simp
      | some q =>
        by_cases e3 : q = p
        · subst e3; simp
        · simp [e3]
end K

set_option Elab.async false
set_option linter.all false
set_option maxRecDepth 100000
set_option maxHeartbeats 2000000
namespace K
open PySem L2 DL
open PyProof.Rows hiding St signs inR
local macro_rules | `(tactic| walk_at "dl") => `(tactic| dsimp only [dSeq, dAsg, dgName, dVar, dC, dOp, dUn, dCB, dCons, dNil, dTup, dLst, dLstM, dNewK, dNewN, dRet, dRetN, dDrop, dIfS, dNext, dNever, dB, dAnd, dOr, dNot, dAndV, dOrV, dNotV, dIf, dMeth, dSl, dPart, dNoPart, dFor, dIter, dSetF, dFld, dMake0, dMethO, dKeysN, dEnumT, dRange1, dRange2, dZip, dEnum, dLc, dLcM, dDc, dSortSet, dCall, dgSeq, dgSub, dgCons, dgNil, dPar, dAug, dBreak, dCont, dYes, endsD, slot, List.set_cons_zero, List.set_cons_succ, itemsD, listR, listRM, tupleR, viewL, viewS, DL.intOf, dwipe, setAll, Shape.bind])
local macro_rules | `(tactic| walk_at "op") => `(tactic| ((first | refine eqR_int ?_ | refine eqR_str ?_ | refine eqR_bl ?_ | refine neR_int ?_ | refine neR_str ?_ | refine ltR_int ?_ | refine leR_int ?_ | refine gtR_int ?_ | refine geR_int ?_ | refine addR_int ?_ | refine addR_str ?_ ?_ | refine iaddR_int ?_ | refine subR_int ?_ | refine isNR_q ?_ | refine notNR_q ?_ | refine lenR_lst ?_ | refine lenR_tup ?_ | refine intCR_int ?_ | refine intCR_bl ?_ | refine absR_int ?_); (try dsimp only)))
def hiD : Option Int → D
  | none => .non
  | some h => .int h
def mgD (m : Mg) : List (Str × D) := [("least", .int m.1), ("greatest", hiD m.2)]
def sp_Margin___init__ (C : Addr) : DSp := fun ds M Q => ∃ n : Nat, ds = [.ref n] ∧ M[n]? = some (.ins C []) ∧ Q .non (M.set n (.ins C (mgD (0, none))))
theorem set_get {M : Store} {n : Nat} {o o' : MO} (h : M[n]? = some o) : (M.set n o')[n]? = some o' := by
  rw [List.getElem?_set_self (List.getElem?_eq_some_iff.mp h).1]
theorem dat_Margin___init__ (C : Addr) (ds : List D) (M : Store) (Q : DK) (h : sp_Margin___init__ C ds M Q) : t_Margin___init__ C (endsD M Q) (startD 1 ds) M := by
  obtain ⟨n, rfl, hM, q⟩ := h
  show t_Margin___init__ C (endsD M Q) [_] M
  unfold t_Margin___init__
  walk_at "dl"
  refine ⟨n, _, rfl, hM, by decide, n, _, rfl, set_get hM, by decide, ?_⟩
  rw [List.set_set]
  exact .inl q
theorem negR_int {i : Int} {M : Store} {Q : DK} (q : Q (.int (-i)) M) : negR (.int i) M Q := q
def sp_Margin_narrow (C : Addr) : DSp := fun ds M Q => ∃ (n : Nat) (m : Mg) (s b : Int), ds = [.ref n, .int s, .int b] ∧ s.natAbs < 1073741824 ∧ M[n]? = some (.ins C (mgD m)) ∧ Q .non (M.set n (.ins C (mgD (narrowM m s b))))
theorem mg_least (m : Mg) : (mgD m).lookup ("least" : Str) = some (D.int m.1) := rfl
theorem mg_great (m : Mg) : (mgD m).lookup ("greatest" : Str) = some (hiD m.2) := rfl
theorem mg_put1 (m : Mg) (x : Int) : putD "least" (.int x) (mgD m) = mgD (x, m.2) := rfl
theorem mg_put2 (m : Mg) (x : Int) : putD "greatest" (.int x) (mgD m) = mgD (m.1, some x) := rfl
theorem set_same {M : Store} {n : Nat} {o : MO} (h : M[n]? = some o) : M.set n o = M := by
  refine List.ext_getElem? fun i => ?_
  rw [List.getElem?_set]
  by_cases e : n = i
  · subst e
    rw [if_pos rfl, if_pos (List.getElem?_eq_some_iff.mp h).1, h]
  · rw [if_neg e]
theorem narrow_second (C : Addr) {n : Nat} {m : Mg} {s b : Int} {a : Option D} {M M0 : Store} {Q : DK} (hs : s.natAbs < 1073741824) (hM : M[n]? = some (.ins C (mgD m))) (q : Q .non (M.set n (.ins C (mgD (m.1, (narrowM m s b).2))))) :
    (dIfS (dB (dOp ltR (dVar 1) (dC (.int 0))))
      (dSeq (dAsg (dOp fdivR (dVar 2) (dUn negR (dVar 1))) (dgName 3))
      (dIfS (dOr (dB (dOp isNR (dFld C "greatest" (dVar 0)) (dC .non))) (dB (dOp ltR (dVar 3) (dFld C "greatest" (dVar 0)))))
        (dSetF C "greatest" (dVar 0) (dVar 3))
        dNext))
      dNext) (endsD M0 Q) [some (.ref n), some (.int s), some (.int b), a] M := by
  walk_at "dl"
  refine ltR_int ?_
  try dsimp only
  refine ite_dec (fun h => ?_) (fun h => ?_)
  · refine negR_int ?_
    try dsimp only
    refine fdivR_int (show CDivN b (-s) from ⟨by omega, by omega⟩) ?_
    try dsimp only
    refine ⟨n, _, _, rfl, hM, mg_great m, isNR_q ?_⟩
    cases hm : m.2 with
    | none =>
      simp only [hiD, D.isN, if_true]
      refine ⟨n, _, rfl, hM, (by show 2 < 1000; decide), ?_⟩
      rw [mg_put2]
      refine .inl ?_
      unfold narrowM at q
      simp only [if_pos h, hm] at q
      exact q
    | some x =>
      simp only [hiD, D.isN, if_false, Bool.false_eq_true]
      refine ⟨n, _, _, rfl, hM, (mg_great m).trans (by rw [hm]; rfl), ltR_int ?_⟩
      try dsimp only
      refine ite_dec (fun h2 => ?_) (fun h2 => ?_)
      · refine ⟨n, _, rfl, hM, (by show 2 < 1000; decide), ?_⟩
        rw [mg_put2]
        refine .inl ?_
        unfold narrowM at q
        simp only [if_pos h, hm, if_pos h2] at q
        exact q
      · refine .inl ?_
        unfold narrowM at q
        simp only [if_pos h, hm, if_neg h2] at q
        rw [← hm, show (m.1, m.2) = m from rfl, set_same hM] at q
        exact q
  · refine .inl ?_
    unfold narrowM at q
    simp only [if_neg h] at q
    rw [show (m.1, m.2) = m from rfl, set_same hM] at q
    exact q
theorem dat_Margin_narrow (C : Addr) (ds : List D) (M : Store) (Q : DK) (h : sp_Margin_narrow C ds M Q) : t_Margin_narrow C (endsD M Q) (startD 4 ds) M := by
  obtain ⟨n, m, s, b, rfl, hs, hM, q⟩ := h
  show t_Margin_narrow C (endsD M Q) [_, _, _, none] M
  unfold t_Margin_narrow
  have rest : ∀ {m' : Mg} {M' : Store}, M'[n]? = some (.ins C (mgD m')) → M'.set n (.ins C (mgD (m'.1, (narrowM m' s b).2))) = M.set n (.ins C (mgD (narrowM m s b))) → _ := fun {m' M'} h1 h2 => narrow_second C (m := m') (s := s) (b := b) (a := none) (M := M') (M0 := M) (Q := Q) hs h1 (by rw [h2]; exact q)
  have e2 : ∀ x : Int, (narrowM (x, m.2) s b).2 = (narrowM m s b).2 := fun x => rfl
  show (dIfS (dB (dOp gtR (dVar 1) (dC (.int 0)))) (dSetF C "least" (dVar 0) (dCB max2R (dCons (dFld C "least" (dVar 0)) (dCons (dUn negR (dOp fdivR (dVar 2) (dVar 1))) dNil)))) dNext) _ [some (.ref n), some (.int s), some (.int b), none] M
  dsimp only [dIfS, dB, dOp, dVar, dC, dNext, slot]
  refine gtR_int ?_
  try dsimp only
  refine ite_dec (fun h => ?_) (fun h => ?_)
  · walk_at "dl"
    refine ⟨n, _, _, rfl, hM, mg_least m, fdivR_int (show CDivN b s from ⟨by omega, hs⟩) ?_⟩
    try dsimp only
    refine ⟨n, _, rfl, hM, (by show 2 < 1000; decide), ?_⟩
    rw [mg_put1]
    refine rest (set_get hM) ?_
    rw [List.set_set]
    congr 3
    unfold narrowM
    simp only [if_pos h]
    congr 1
    rw [Int.max_def]
    split <;> split <;> omega
  · refine rest hM ?_
    congr 3
    unfold narrowM
    simp only [if_neg h]
end K

set_option Elab.async false
set_option linter.all false
set_option maxRecDepth 100000
set_option maxHeartbeats 2000000
namespace K
open PySem L2 DL
open PyProof.Rows hiding St signs inR
local macro_rules | `(tactic| walk_at "dl") => `(tactic| dsimp only [dSeq, dAsg, dgName, dVar, dC, dOp, dUn, dCB, dCons, dNil, dTup, dLst, dLstM, dNewK, dNewN, dRet, dRetN, dDrop, dIfS, dNext, dNever, dB, dAnd, dOr, dNot, dAndV, dOrV, dNotV, dIf, dMeth, dSl, dPart, dNoPart, dFor, dIter, dSetF, dFld, dMake0, dMethO, dKeysN, dEnumT, dRange1, dRange2, dZip, dEnum, dLc, dLcM, dDc, dSortSet, dCall, dgSeq, dgSub, dgCons, dgNil, dPar, dAug, dBreak, dCont, dYes, endsD, slot, List.set_cons_zero, List.set_cons_succ, itemsD, listR, listRM, tupleR, viewL, viewS, DL.intOf, dwipe, setAll, Shape.bind])
theorem keys_F (f : F) : (encF f).map (fun p => kD p.1) = (f.map (·.1)).map pD := by
  simp [encF, List.map_map, Function.comp_def, kP, kD, kDs, pD]
theorem depth_encP (p : Pair) : (encP p).depth ≤ 64 := by
  simp [encP, PyData.depth, PyData.depthAll]
theorem py_P (M : Store) (p : Pair) : PyOf M (pD p) (encP p) := .tup (.cons (.str _) (.cons (.str _) .nil))
theorem ltDR_P {p q : Pair} {M : Store} {Q : DK} (h : Q (.bl (ltP p q)) M) : ltDR (pD p) (pD q) M Q :=
  ⟨encP p, encP q, py_P M p, py_P M q, rfl, by simp [encP], Nat.le_trans (Nat.min_le_left _ _) (depth_encP p), h⟩
def OkP (p : Pair) : Prop := PyData.strOk p.1 = true ∧ PyData.strOk p.2 = true
def sp_narrow_step (C : Addr) : DSp := fun ds M Q => ∃ (n : Nat) (p : Option Pair) (sl ba : F) (m : Mg), ds = [.ref n, pairD p, .dn (encF sl), .dn (encF ba)] ∧ M[n]? = some (.ins C (mgD m)) ∧ (∀ q, p = some q → q ∈ sl.map (·.1)) ∧
  ba.map (·.1) = sl.map (·.1) ∧ (∀ k ∈ sl.map (·.1), OkP k) ∧ (∀ k, 0 ≤ valF sl k ∧ valF sl k < 500000000) ∧ Q .non (M.set n (.ins C (mgD (stepM p sl ba m))))
theorem val_at {f : F} {k : Pair} {M : Store} {Q : DK} (h : k ∈ f.map (·.1)) (q : Q (.int (valF f k)) M) : ixR (.dn (encF f)) (pD k) M Q := by
  obtain ⟨v, e⟩ := aGet_key h
  refine found_at e ?_
  unfold valF at q
  rw [e] at q
  exact q
theorem dat_narrow_step (C : Addr) (ds : List D) (M : Store) (Q : DK) (h : sp_narrow_step C ds M Q) : t_narrow_step C (sp_Margin_narrow C) (endsD M Q) (startD 6 ds) M := by
  obtain ⟨n, p, sl, ba, m, rfl, hM, hp, hk, ok, hb, q⟩ := h
  show t_narrow_step C _ (endsD M Q) [_, _, _, _, none, none] M
  unfold t_narrow_step
  walk_at "dl"
  rw [keys_F]
  refine for_inv (fun i ρ M' => ∃ a b, ρ = [some (.ref n), some (pairD p), some (.dn (encF sl)), some (.dn (encF ba)), a, b] ∧ M' = M.set n (.ins C (mgD (((sl.map (·.1)).take i).foldl (stepM1 p sl ba) m)))) ⟨none, none, rfl, by rw [List.take_zero]; exact (set_same hM).symm⟩ ?_ ?_
  · rintro i x ρ M' ex ⟨a, b, rfl, rfl⟩
    rw [List.getElem?_map] at ex
    obtain ⟨k, ek, rfl⟩ := Option.map_eq_some_iff.mp ex
    refine ⟨trivial, fun go kk => ?_⟩
    have km := List.mem_of_getElem? ek
    have kb : k ∈ ba.map (·.1) := by rw [hk]; exact km
    have et : ((sl.map (·.1)).take (i + 1)).foldl (stepM1 p sl ba) m = stepM1 p sl ba (((sl.map (·.1)).take i).foldl (stepM1 p sl ba) m) k := by
      rw [List.take_add_one, ek, List.foldl_append]; rfl
    generalize ((sl.map (·.1)).take i).foldl (stepM1 p sl ba) m = m1 at et ⊢
    have hM1 : (M.set n (.ins C (mgD m1)))[n]? = some (.ins C (mgD m1)) := set_get hM
    have v1 := hb k
    walk_at "dl"
    refine isNR_q ?_
    cases p with
    | none =>
      simp only [pairD, D.isN, if_true]
      refine ⟨⟨n, _, rfl, hM1, rfl⟩, val_at km (negR_int ?_)⟩
      try dsimp only
      refine val_at kb (negR_int ?_)
      try dsimp only
      refine ⟨n, m1, _, _, rfl, by omega, hM1, ?_⟩
      refine .inl (kk _ _ ⟨_, _, rfl, ?_⟩)
      rw [List.set_set, et]
      rfl
    | some r =>
      have rm := hp r rfl
      have rb : r ∈ ba.map (·.1) := by rw [hk]; exact rm
      have v2 := hb r
      show if false = true then _ else _
      rw [if_neg Bool.false_ne_true]
      refine eqR_P ⟨(ok k km).1, (ok k km).2, (ok r rm).1, (ok r rm).2⟩ ?_
      try dsimp only
      refine ite_dec (fun e => ?_) (fun e => ?_)
      · refine ⟨⟨n, _, rfl, hM1, rfl⟩, val_at rm ?_⟩
        try dsimp only
        refine val_at rb (subR_int ?_)
        try dsimp only
        refine ⟨n, m1, _, _, rfl, by omega, hM1, ?_⟩
        refine .inl (kk _ _ ⟨_, _, rfl, ?_⟩)
        rw [List.set_set, et]
        unfold stepM1
        simp only [if_pos e]
      · refine ltDR_P ?_
        try dsimp only
        have fin : ∀ g : Int, gapP k r = g → (∃ k_1 fs, D.ref n = D.ref k_1 ∧ (M.set n (.ins C (mgD m1)))[k_1]? = some (.ins C fs) ∧ fs.lookup ("narrow" : Str) = none) ∧ ixR (.dn (encF sl)) (pD r) (M.set n (.ins C (mgD m1))) fun x M1 => ixR (.dn (encF sl)) (pD k) M1 fun y M1 => subR x y M1 fun x M1 =>
            ixR (.dn (encF ba)) (pD r) M1 fun x_1 M1 => ixR (.dn (encF ba)) (pD k) M1 fun y M1 => subR x_1 y M1 fun x_1 M1 => subR x_1 (.int g) M1 fun x_2 M1 => sp_Margin_narrow C [D.ref n, x, x_2] M1 fun x M1 =>
              DL.TurnOk (M.set n (.ins C (mgD m1))) [some (D.ref n), some (pD r), some (D.dn (encF sl)), some (D.dn (encF ba)), some (pD k), some (.int g)] M1 go := fun g hg => by
          refine ⟨⟨n, _, rfl, hM1, rfl⟩, val_at rm (val_at km (subR_int (val_at rb (val_at kb (subR_int (subR_int ?_))))))⟩
          refine ⟨n, m1, _, _, rfl, by omega, hM1, ?_⟩
          refine .inl (kk _ _ ⟨_, _, rfl, ?_⟩)
          rw [List.set_set, et]
          unfold stepM1
          simp only [if_neg e, hg]
        cases hl : ltP k r with
        | true =>
          rw [if_pos rfl]
          exact fin 1 (by unfold gapP; rw [hl]; rfl)
        | false =>
          rw [if_neg Bool.false_ne_true]
          exact fin 0 (by unfold gapP; rw [hl]; rfl)
  · rintro ρ M' ⟨a, b, rfl, rfl⟩
    refine ⟨trivial, ?_⟩
    rw [List.length_map, List.take_length]
    exact .inl q
end K

set_option Elab.async false
set_option linter.all false
set_option maxRecDepth 100000
set_option maxHeartbeats 2000000
namespace K
open PySem L2 DL
open PyProof.Rows hiding St signs inR
local macro_rules | `(tactic| walk_at "dl") => `(tactic| dsimp only [dSeq, dAsg, dgName, dVar, dC, dOp, dUn, dCB, dCons, dNil, dTup, dLst, dLstM, dNewK, dNewN, dRet, dRetN, dDrop, dIfS, dNext, dNever, dB, dAnd, dOr, dNot, dAndV, dOrV, dNotV, dIf, dMeth, dSl, dPart, dNoPart, dFor, dIter, dSetF, dFld, dMake0, dMethO, dKeysN, dEnumT, dRange1, dRange2, dZip, dEnum, dLc, dLcM, dDc, dSortSet, dCall, dgSeq, dgSub, dgCons, dgNil, dPar, dAug, dBreak, dCont, dYes, endsD, slot, List.set_cons_zero, List.set_cons_succ, itemsD, listR, listRM, tupleR, viewL, viewS, DL.intOf, dwipe, setAll, Shape.bind])
/-- the corpus with the entry's count apart -/
def lin0 (cs : List (Str × Int)) (e : Nat) : Lin := cs.mapIdx fun i x => (signs x.1, if i = e then 1 else 0, if i = e then 0 else x.2)
def setC (cs : List (Str × Int)) (e : Nat) (c : Int) : List (Str × Int) := cs.mapIdx fun i x => (x.1, if i = e then c else x.2)
theorem lin_set (cs : List (Str × Int)) (e : Nat) (c : Int) : linAt (lin0 cs e) c = rows0 (setC cs e c) := by
  unfold linAt lin0 rows0 setC
  refine List.ext_getElem? fun i => ?_
  rw [List.getElem?_map, List.getElem?_map, List.getElem?_mapIdx, List.getElem?_mapIdx]
  cases cs[i]? with
  | none => rfl
  | some x =>
    show some (signs x.1, _) = some (signs x.1, _)
    congr 2
    split <;> simp
theorem setC_own {cs : List (Str × Int)} {e : Nat} {x : Str × Int} (h : cs[e]? = some x) : setC cs e x.2 = cs := by
  unfold setC
  refine List.ext_getElem? fun i => ?_
  rw [List.getElem?_mapIdx]
  cases hi : cs[i]? with
  | none => rfl
  | some y =>
    show some _ = some y
    by_cases e2 : i = e
    · subst e2
      rw [h] at hi
      cases hi
      simp
    · simp [e2]
end K

set_option Elab.async false
set_option linter.all false
set_option maxRecDepth 100000
set_option maxHeartbeats 2000000
namespace K
open PySem L2 DL
open PyProof.Rows hiding St signs inR
local macro_rules | `(tactic| walk_at "dl") => `(tactic| dsimp only [dSeq, dAsg, dgName, dVar, dC, dOp, dUn, dCB, dCons, dNil, dTup, dLst, dLstM, dNewK, dNewN, dRet, dRetN, dDrop, dIfS, dNext, dNever, dB, dAnd, dOr, dNot, dAndV, dOrV, dNotV, dIf, dMeth, dSl, dPart, dNoPart, dFor, dIter, dSetF, dFld, dMake0, dMethO, dKeysN, dEnumT, dRange1, dRange2, dZip, dEnum, dLc, dLcM, dDc, dSortSet, dCall, dgSeq, dgSub, dgCons, dgNil, dPar, dAug, dBreak, dCont, dYes, endsD, slot, List.set_cons_zero, List.set_cons_succ, itemsD, listR, listRM, tupleR, viewL, viewS, DL.intOf, dwipe, setAll, Shape.bind])
/-! bounds of the counts -/
theorem bump_le {tk : Tk} {c : Int} {f : F} {p k : Pair} (hc : 0 ≤ c) : valF f k ≤ valF (bump tk c f p) k ∧ valF (bump tk c f p) k ≤ valF f k + c := by
  unfold bump
  split
  · omega
  · rw [val_put]
    split
    · rename_i e
      subst e
      show valF f k ≤ valF f k + c ∧ valF f k + c ≤ valF f k + c
      omega
    · omega
theorem bumps_le {tk : Tk} {c : Int} {k : Pair} (hc : 0 ≤ c) : ∀ (l : List Pair) (f : F), valF f k ≤ valF (l.foldl (bump tk c) f) k ∧ valF (l.foldl (bump tk c) f) k ≤ valF f k + (l.length : Int) * c
  | [], f => by simp
  | p :: l, f => by
    have h1 := bump_le (tk := tk) (f := f) (p := p) (k := k) hc
    have h2 := bumps_le (tk := tk) (k := k) hc l (bump tk c f p)
    rw [List.foldl_cons]
    have e : ((p :: l).length : Int) * c = (l.length : Int) * c + c := by rw [List.length_cons]; simp [Int.add_mul]
    rw [e]
    omega
theorem rows_le {tk : Tk} {k : Pair} {B : Int} {L : Nat} (hB : 0 ≤ B) : ∀ (r : Rcs) (f : F), (∀ x ∈ r, 0 ≤ x.2 ∧ x.2 ≤ B ∧ x.1.length ≤ L) → valF f k ≤ valF (r.foldl (addRow tk) f) k ∧ valF (r.foldl (addRow tk) f) k ≤ valF f k + (r.length : Int) * ((L : Int) * B)
  | [], f, _ => by simp
  | x :: r, f, h => by
    obtain ⟨a1, a2, a3⟩ := h x (by simp)
    have h1 := bumps_le (tk := tk) (k := k) a1 (pairsOf x.1) f
    have h2 := rows_le (tk := tk) (k := k) (L := L) hB r (addRow tk f x) fun y hy => h y (List.mem_cons_of_mem _ hy)
    rw [List.foldl_cons]
    have e : ((x :: r).length : Int) * ((L : Int) * B) = (r.length : Int) * ((L : Int) * B) + (L : Int) * B := by rw [List.length_cons]; simp [Int.add_mul]
    have h3 : ((pairsOf x.1).length : Int) * x.2 ≤ (L : Int) * B := by
      refine Int.mul_le_mul ?_ a2 a1 (by omega)
      have := pairsOf_len x.1
      omega
    rw [e]
    have h1' : valF f k ≤ valF (addRow tk f x) k ∧ valF (addRow tk f x) k ≤ valF f k + ((pairsOf x.1).length : Int) * x.2 := h1
    omega
theorem count_le {tk : Tk} {k : Pair} {B : Int} {L : Nat} (hB : 0 ≤ B) (r : Rcs) (h : ∀ x ∈ r, 0 ≤ x.2 ∧ x.2 ≤ B ∧ x.1.length ≤ L) : 0 ≤ valF (countF tk r) k ∧ valF (countF tk r) k ≤ (r.length : Int) * ((L : Int) * B) := by
  have := rows_le (tk := tk) (k := k) (L := L) hB r [] h
  have e : valF [] k = 0 := rfl
  rw [e] at this
  unfold countF
  omega
end K

set_option Elab.async false
set_option linter.all false
set_option maxRecDepth 100000
set_option maxHeartbeats 2000000
namespace K
open PySem L2 DL
open PyProof.Rows hiding St signs inR
local macro_rules | `(tactic| walk_at "dl") => `(tactic| dsimp only [dSeq, dAsg, dgName, dVar, dC, dOp, dUn, dCB, dCons, dNil, dTup, dLst, dLstM, dNewK, dNewN, dRet, dRetN, dDrop, dIfS, dNext, dNever, dB, dAnd, dOr, dNot, dAndV, dOrV, dNotV, dIf, dMeth, dSl, dPart, dNoPart, dFor, dIter, dSetF, dFld, dMake0, dMethO, dKeysN, dEnumT, dRange1, dRange2, dZip, dEnum, dLc, dLcM, dDc, dSortSet, dCall, dgSeq, dgSub, dgCons, dgNil, dPar, dAug, dBreak, dCont, dYes, endsD, slot, List.set_cons_zero, List.set_cons_succ, itemsD, listR, listRM, tupleR, viewL, viewS, DL.intOf, dwipe, setAll, Shape.bind])
theorem enum_words (cs : List (Str × Int)) : enumD (cs.map wordD) = cs.zipIdx.map fun p => .tup [.int (p.2 : Nat), wordD p.1] := by
  unfold enumD
  refine List.ext_getElem? fun i => ?_
  rw [List.getElem?_mapIdx, List.getElem?_map, List.getElem?_map, List.getElem?_zipIdx]
  cases cs[i]? with
  | none => rfl
  | some x => simp
theorem range_words (n : Nat) : rangeD 0 n = (List.range n).map fun i => .int (i : Nat) := by
  unfold rangeD
  simp
theorem lin_rows (cs : List (Str × Int)) (e : Nat) : (cs.map fun x => rowD (signs x.1)) = (lin0 cs e).map fun x => rowD x.1 := by
  unfold lin0
  refine List.ext_getElem? fun i => ?_
  rw [List.getElem?_map, List.getElem?_map, List.getElem?_mapIdx]
  cases cs[i]? <;> rfl
theorem lin_ones (cs : List (Str × Int)) (e : Nat) : ((List.range cs.length).map fun i => D.int (if i = e then 1 else 0)) = (lin0 cs e).map fun x => D.int x.2.1 := by
  unfold lin0
  refine List.ext_getElem? fun i => ?_
  rw [List.getElem?_map, List.getElem?_map, List.getElem?_mapIdx]
  by_cases h : i < cs.length
  · rw [List.getElem?_range h, List.getElem?_eq_getElem h]; rfl
  · rw [List.getElem?_eq_none (by simpa using h), List.getElem?_eq_none (by simpa using h)]; rfl
theorem lin_others (cs : List (Str × Int)) (e : Nat) : (cs.zipIdx.map fun p => D.int (if p.2 = e then 0 else p.1.2)) = (lin0 cs e).map fun x => D.int x.2.2 := by
  unfold lin0
  refine List.ext_getElem? fun i => ?_
  rw [List.getElem?_map, List.getElem?_map, List.getElem?_mapIdx, List.getElem?_zipIdx]
  cases cs[i]? with
  | none => rfl
  | some x => simp
end K

set_option Elab.async false
set_option linter.all false
set_option maxRecDepth 100000
set_option maxHeartbeats 2000000
namespace K
open PySem L2 DL
open PyProof.Rows hiding St signs inR
local macro_rules | `(tactic| walk_at "dl") => `(tactic| dsimp only [dSeq, dAsg, dgName, dVar, dC, dOp, dUn, dCB, dCons, dNil, dTup, dLst, dLstM, dNewK, dNewN, dRet, dRetN, dDrop, dIfS, dNext, dNever, dB, dAnd, dOr, dNot, dAndV, dOrV, dNotV, dIf, dMeth, dSl, dPart, dNoPart, dFor, dIter, dSetF, dFld, dMake0, dMethO, dKeysN, dEnumT, dRange1, dRange2, dZip, dEnum, dLc, dLcM, dDc, dSortSet, dCall, dgSeq, dgSub, dgCons, dgNil, dPar, dAug, dBreak, dCont, dYes, endsD, slot, List.set_cons_zero, List.set_cons_succ, itemsD, listR, listRM, tupleR, viewL, viewS, DL.intOf, dwipe, setAll, Shape.bind])
def LinOk (r : Lin) : Prop := r.length < 1000 ∧ ∀ x ∈ r, RowT x.1 ∧ OkS x.1 ∧ 0 ≤ x.2.1 ∧ x.2.1 ≤ 1
theorem LinOk.step {r : Lin} {p : Pair} (h : LinOk r) (hp : OkP p) : LinOk (stepLin p r) := by
  refine ⟨by unfold stepLin; rw [List.length_map]; exact h.1, fun x hx => ?_⟩
  obtain ⟨y, hy, rfl⟩ := List.mem_map.mp hx
  obtain ⟨a, b, c, d⟩ := h.2 y hy
  exact ⟨a.step p, joinedOnce_ok hp.1 hp.2 b, c, d⟩
theorem lin_key {r : Lin} {tk : Tk} {k : Pair} (h : LinOk r) (hk : k ∈ (countF tk (ones r)).map (·.1)) : OkP k := by
  rcases rows_key hk with q | ⟨x, hx, q⟩
  · cases q
  · obtain ⟨y, hy, rfl⟩ := List.mem_map.mp hx
    exact pairs_ok (h.2 y hy).2.1 q
theorem lin0_ok {cs : List (Str × Int)} {e : Nat} (h : CorpS cs) : LinOk (lin0 cs e) := by
  refine ⟨by unfold lin0; rw [List.length_mapIdx]; exact h.1.1, fun x hx => ?_⟩
  unfold lin0 at hx
  obtain ⟨i, hi, rfl⟩ := List.mem_mapIdx.mp hx
  have hm : cs[i] ∈ cs := List.getElem_mem hi
  refine ⟨RowT.start (h.1.2 _ hm), signs_ok (h.2 _ hm), ?_, ?_⟩ <;> (show _ ≤ _; dsimp only; split <;> decide)
theorem margRun_succ (n : Nat) (r : Lin) (tk : Tk) (c0 : Int) (m : Mg) : margRun (n + 1) r tk c0 m = match chosen (countF tk (linAt r c0)) with
    | none => stepM none (countF tk (ones r)) (countF tk (others r)) m
    | some p => margRun n (stepLin p r) (aPut tk (p.1 ++ p.2) true) c0 (stepM (some p) (countF tk (ones r)) (countF tk (others r)) m) := rfl
def sp_margin_of : DSp := fun ds M Q => ∃ (z : Str) (cs : List (Str × Int)) (n e : Nat) (w : Str × Int), ds = [.str z, .tup (cs.map wordD), .int n, .int e] ∧ CorpS cs ∧ n < 100000 ∧ cs[e]? = some w ∧
  Q (.tup [.int (margRun n (lin0 cs e) [] w.2 (0, none)).1, hiD (margRun n (lin0 cs e) [] w.2 (0, none)).2]) M
theorem dat_margin_of (C : Addr) (ds : List D) (M : Store) (Q : DK) (h : sp_margin_of ds M Q) : t_margin_of C (sp_Margin___init__ C) sp_trained_steps (sp_narrow_step C) sp_pair_counts sp_joined_once (endsD M Q) (startD 15 ds) M := by
  obtain ⟨z, cs, n, e, w, rfl, ok, hn, hw, q⟩ := h
  show t_margin_of C _ _ _ _ _ (endsD M Q) [_, _, _, _, none, none, none, none, none, none, none, none, none, none, none] M
  unfold t_margin_of
  have hcl := ok.1.1
  walk_at "dl"
  refine lc_map (sh := .many [11, 12]) trivial wordD (fun x => rowD (signs x.1)) cs (small' (by omega)) (fun x hx => ⟨_, rfl, fun K k => ?_⟩) ?_
  · walk_at "dl"
    rw [if_pos (small' (by have := ok.1.2 x hx; omega))]
    exact k
  refine lenR_tup ?_
  try dsimp only
  refine ⟨by rw [List.length_map]; omega, by omega, ?_⟩
  rw [List.length_map, Int.toNat_natCast, range_words]
  refine lc_map (sh := .one 13) trivial (fun i : Nat => D.int (i : Nat)) (fun i : Nat => D.int (if i = e then 1 else 0)) (List.range cs.length) (small' (by rw [List.length_range]; omega)) (fun i hi => ⟨_, rfl, fun K k => ?_⟩) ?_
  · walk_at "dl"
    refine eqR_int ?_
    try dsimp only
    refine ite_dec (fun h => ?_) (fun h => ?_)
    · rw [if_pos (by omega)] at k; exact k
    · rw [if_neg (by omega)] at k; exact k
  rw [enum_words]
  refine lc_map (sh := .many [13, 9]) trivial (fun p : (Str × Int) × Nat => D.tup [.int (p.2 : Nat), wordD p.1]) (fun p => D.int (if p.2 = e then 0 else p.1.2)) cs.zipIdx (small' (by rw [List.length_zipIdx]; omega)) (fun i hi => ⟨_, rfl, fun K k => ?_⟩) ?_
  · walk_at "dl"
    refine eqR_int ?_
    try dsimp only
    refine ite_dec (fun h => ?_) (fun h => ?_)
    · rw [if_pos (by omega)] at k; exact k
    · rw [if_neg (by omega)] at k
      exact ixR_tup (n := 1) rfl k
  rw [lin_rows cs e, lin_ones, lin_others]
  have g0 : (M ++ [MO.dk []] ++ [MO.ins C []])[M.length + 1]? = some (.ins C []) := by simp
  refine ⟨M.length + 1, by simp, g0, rfl, ?_⟩
  have e1 : (M ++ [MO.dk []] ++ [MO.ins C []]).set (M.length + 1) (.ins C (mgD (0, none))) = M ++ [MO.dk [], .ins C (mgD (0, none))] := by
    rw [List.append_assoc]
    exact set_at _ _ _ _
  rw [e1]
  refine ⟨cs, n, rfl, ok.1, hn, ?_⟩
  try dsimp only
  refine for_inv (fun i ρ M' => ∃ (r : Lin) (tk : Tk) (k : Nat) (m : Mg) (a b c d f g : Option D), ρ = [some (.str z), some (.tup (cs.map wordD)), some (.int n), some (.int e), some (.lst (r.map fun x => rowD x.1)), some (.lst (r.map fun x => .int x.2.1)), some (.lst (r.map fun x => .int x.2.2)), some (.ref M.length), some (.ref (M.length + 1)), a, b, c, d, f, g] ∧
      M' = M ++ [.dk (encT tk), .ins C (mgD m)] ∧ LinOk r ∧ tk.length ≤ i ∧ (trained cs n).drop i = train k (linAt r w.2) tk ∧ margRun k r tk w.2 m = margRun n (lin0 cs e) [] w.2 (0, none))
    ⟨lin0 cs e, [], n, (0, none), none, none, none, none, none, none, ?_, rfl, lin0_ok ok, Nat.le_refl _, ?_, rfl⟩ ?_ ?_
  · simp
  · rw [lin_set, setC_own hw]; rfl
  · rintro i x ρ M' ex ⟨r, tk, k, m, a, b, c, d, f, g, rfl, rfl, ro, ht, hd, hm⟩
    rw [List.getElem?_map] at ex
    obtain ⟨y, ey, rfl⟩ := Option.map_eq_some_iff.mp ex
    have hdd : (trained cs n).drop i = y :: (trained cs n).drop (i + 1) := List.drop_eq_getElem?_toList_append.trans (by rw [ey]; rfl)
    refine ⟨rfl, fun go kk => ?_⟩
    have g0 : (M ++ [MO.dk (encT tk), .ins C (mgD m)])[M.length]? = some (.dk (encT tk)) := get_at0 _ _
    have g1 : (M ++ [MO.dk (encT tk), .ins C (mgD m)])[M.length + 1]? = some (.ins C (mgD m)) := get_at _ _ 1
    have hrl := ro.1
    cases k with
    | zero => rw [hdd] at hd; cases hd
    | succ k =>
    rw [hdd] at hd
    unfold train at hd
    obtain ⟨hy, hd'⟩ := List.cons.inj hd
    have hL := L3.count w.2 tk r
    walk_at "dl"
    have e1 : (r.map fun x => rowD x.1) = (ones r).map fun x => rowD x.1 := by unfold ones; rw [List.map_map]; rfl
    have e2 : (r.map fun x => D.int x.2.1) = (ones r).map fun x => D.int x.2 := by unfold ones; rw [List.map_map]; rfl
    have e3 : (r.map fun x => rowD x.1) = (others r).map fun x => rowD x.1 := by unfold others; rw [List.map_map]; rfl
    have e4 : (r.map fun x => D.int x.2.2) = (others r).map fun x => D.int x.2 := by unfold others; rw [List.map_map]; rfl
    refine ⟨rfl, rfl, ones r, tk, M.length, by rw [e1, e2], g0, by unfold ones; rw [List.length_map]; exact hrl, fun x hx => ?_, ?_⟩
    · obtain ⟨y, hy, rfl⟩ := List.mem_map.mp hx
      exact (ro.2 y hy).1.ok
    refine ⟨others r, tk, M.length, by rw [e3, e4], g0, by unfold others; rw [List.length_map]; exact hrl, fun x hx => ?_, ?_⟩
    · obtain ⟨y, hy, rfl⟩ := List.mem_map.mp hx
      exact (ro.2 y hy).1.ok
    have hy1 : y.1 = chosen (countF tk (linAt r w.2)) := by rw [hy]
    have hkey : ∀ q, y.1 = some q → q ∈ (countF tk (ones r)).map (·.1) := fun q eq => by
      rw [← hL.kc]
      exact chosen_key (hy1.symm.trans eq)
    refine ⟨M.length + 1, y.1, countF tk (ones r), countF tk (others r), m, rfl, g1, hkey, hL.kb, fun k hk => lin_key ro hk, fun k => ?_, ?_⟩
    · have := count_le (tk := tk) (k := k) (B := 1) (L := 1000) (by decide) (ones r) fun x hx => by
        obtain ⟨y, hy, rfl⟩ := List.mem_map.mp hx
        obtain ⟨a, b, c, d⟩ := ro.2 y hy
        exact ⟨c, d, Nat.le_of_lt a.1⟩
      have hl : (ones r).length = r.length := by unfold ones; rw [List.length_map]
      rw [hl] at this
      omega
    rw [set_at]
    refine notNR_q ?_
    try dsimp only
    rw [margRun_succ] at hm
    rw [← hy1] at hm hd'
    cases ec : y.1 with
    | none =>
      rw [ec] at hm hd'
      refine (if_neg (show ¬ (!D.isN (pairD none)) = true from by decide)).symm ▸ ?_
      refine .inl (kk _ _ ⟨r, tk, 0, _, _, _, _, _, _, _, rfl, rfl, ro, by omega, hd', hm⟩)
    | some p =>
      rw [ec] at hm hd'
      refine (if_pos (show (!D.isN (pairD (some p))) = true from rfl)).symm ▸ ?_
      have hpk := lin_key ro (hkey p ec)
      refine ixR_tup (n := 0) rfl (ixR_tup (n := 1) rfl ?_)
      have rok : ∀ x ∈ linAt r w.2, RowT x.1 := fun x hx => by
        obtain ⟨y, hy, rfl⟩ := List.mem_map.mp hx
        exact (ro.2 y hy).1
      have hp := chosen_len (hy1.symm.trans ec) rok
      refine addR_str (small' (by omega)) ?_
      try dsimp only
      refine setR_dk (k := Sum.inr (p.1 ++ p.2)) (kvs := encT tk) (get_at0 _ _) rfl ?_ ?_
      · unfold encT
        rw [List.length_map]
        have := trained_len cs n
        have := (List.getElem?_eq_some_iff.mp ey).1
        exact small (by omega)
      rw [set_at0, encT_put]
      refine lc_map (sh := .one 14) ?_ (fun x : List Str × Int × Int => rowD x.1) (fun x => rowD (joinedOnce p.1 p.2 x.1)) r (small' (by omega)) (fun x hx => ⟨_, rfl, fun K k => ?_⟩) ?_
      · rfl
      · walk_at "dl"
        refine ixR_tup (n := 0) rfl (ixR_tup (n := 1) rfl ?_)
        exact ⟨x.1, p.1, p.2, rfl, (ro.2 x hx).1.1, hp, k⟩
      have s1 : (r.map fun x => rowD (joinedOnce p.1 p.2 x.1)) = (stepLin p r).map fun x => rowD x.1 := by unfold stepLin; rw [List.map_map]; rfl
      have s2 : (r.map fun x => D.int x.2.1) = (stepLin p r).map fun x => D.int x.2.1 := by unfold stepLin; rw [List.map_map]; rfl
      have s3 : (r.map fun x => D.int x.2.2) = (stepLin p r).map fun x => D.int x.2.2 := by unfold stepLin; rw [List.map_map]; rfl
      rw [s1, s2, s3]
      refine .inl (kk _ _ ⟨stepLin p r, aPut tk (p.1 ++ p.2) true, k, _, _, _, _, _, _, _, rfl, rfl, ro.step hpk, ?_, ?_, hm⟩)
      · exact Nat.le_trans (aPut_len _ _ _) (Nat.succ_le_succ ht)
      · rw [linAt_step]; exact hd'
  · rintro ρ M' ⟨r, tk, k, m, a, b, c, d, f, g, rfl, rfl, ro, ht, hd, hm⟩
    refine ⟨rfl, ?_⟩
    rw [List.length_map, List.drop_length] at hd
    have hk : k = 0 := by
      cases k with
      | zero => rfl
      | succ k => cases hd
    subst hk
    have hm' : m = margRun n (lin0 cs e) [] w.2 (0, none) := hm
    have gm : (M ++ [MO.dk (encT tk), .ins C (mgD m)])[M.length + 1]? = some (.ins C (mgD m)) := get_at _ _ 1
    walk_at "dl"
    refine ⟨_, _, _, rfl, gm, mg_least m, _, _, _, rfl, gm, mg_great m, ?_⟩
    rw [← hm'] at q
    refine ⟨(by show 2 ≤ sizeLine; decide), ?_⟩
    refine .drop (G := [MO.dk (encT tk), .ins C (mgD m)]) ⟨trivial, ?_, trivial⟩ q
    cases m.2 <;> trivial
end K

set_option Elab.async false
set_option linter.all false
set_option maxRecDepth 100000
set_option maxHeartbeats 2000000
namespace K
open PySem L2 DL
open PyProof.Rows hiding St signs inR
local macro_rules | `(tactic| walk_at "dl") => `(tactic| dsimp only [dSeq, dAsg, dgName, dVar, dC, dOp, dUn, dCB, dCons, dNil, dTup, dLst, dLstM, dNewK, dNewN, dRet, dRetN, dDrop, dIfS, dNext, dNever, dB, dAnd, dOr, dNot, dAndV, dOrV, dNotV, dIf, dMeth, dSl, dPart, dNoPart, dFor, dIter, dSetF, dFld, dMake0, dMethO, dKeysN, dEnumT, dRange1, dRange2, dZip, dEnum, dLc, dLcM, dDc, dSortSet, dCall, dgSeq, dgSub, dgCons, dgNil, dPar, dAug, dBreak, dCont, dYes, endsD, slot, List.set_cons_zero, List.set_cons_succ, itemsD, listR, listRM, tupleR, viewL, viewS, DL.intOf, dwipe, setAll, Shape.bind])
def sp_u_law_count : DSp := fun ds M Q => ∃ same : Int, ds = [.ref 1, .int same] ∧ 0 ≤ same ∧ same ≤ 100 ∧ PS M ∧ ∀ (v : Int) (M' : Store), PS M' → 0 ≤ v → v ≤ 1000000000 → Q (.int v) M'
theorem dat_u_law_count (ds : List D) (M : Store) (Q : DK) (h : sp_u_law_count ds M Q) : t_u_law_count sp_u_law_draw (endsD M Q) (startD 3 ds) M := by
  obtain ⟨same, rfl, hs, hs2, hM, q⟩ := h
  show t_u_law_count _ (endsD _ Q) [some (.ref 1), some (.int same), none] _
  unfold t_u_law_count
  walk_at "dl"
  refine draw_at (many := 7) hM (by omega) fun v L1 hL1 hv => ?_
  refine eqR_int ?_
  try dsimp only
  refine ite_dec (fun h => .inl (q _ _ hL1 (by decide) (by decide))) (fun h => ?_)
  refine ltR_int ?_
  try dsimp only
  refine ite_dec (fun h => .inl (q _ _ hL1 hs (by omega))) (fun h => ?_)
  refine eqR_int ?_
  try dsimp only
  refine ite_dec (fun h => ?_) (fun h => ?_)
  · refine powR_int (by unfold CPow; decide) ?_
    refine draw_at (many := 3) hL1 (by omega) fun v2 L2 hL2 hv2 => subR_int ?_
    have e : (10 : Int) ^ (9 : Int).toNat = 1000000000 := by decide
    rw [e]
    exact .inl (q _ _ hL2 (by omega) (by omega))
  · refine draw_at (many := 9) hL1 (by omega) fun v2 L2 hL2 hv2 => addR_int ?_
    exact .inl (q _ _ hL2 (by omega) (by omega))
end K

set_option Elab.async false
set_option linter.all false
set_option maxRecDepth 100000
set_option maxHeartbeats 2000000
namespace K
open PySem L2 DL
open PyProof.Rows hiding St signs inR
local macro_rules | `(tactic| walk_at "dl") => `(tactic| dsimp only [dSeq, dAsg, dgName, dVar, dC, dOp, dUn, dCB, dCons, dNil, dTup, dLst, dLstM, dNewK, dNewN, dRet, dRetN, dDrop, dIfS, dNext, dNever, dB, dAnd, dOr, dNot, dAndV, dOrV, dNotV, dIf, dMeth, dSl, dPart, dNoPart, dFor, dIter, dSetF, dFld, dMake0, dMethO, dKeysN, dEnumT, dRange1, dRange2, dZip, dEnum, dLc, dLcM, dDc, dSortSet, dCall, dgSeq, dgSub, dgCons, dgNil, dPar, dAug, dBreak, dCont, dYes, endsD, slot, List.set_cons_zero, List.set_cons_succ, itemsD, listR, listRM, tupleR, viewL, viewS, DL.intOf, dwipe, setAll, Shape.bind])
def sp_u_law_word : DSp := fun ds M Q => ∃ (z : Str) (most : Nat), ds = [.ref 1, .str z, .int most] ∧ PS M ∧ LetsOk z ∧ most ≤ 100 ∧ ∀ (w : Str) (M' : Store), PS M' → w.length ≤ 600 → In (signs z) w → Q (.str w) M'
theorem dat_u_law_word (ds : List D) (M : Store) (Q : DK) (h : sp_u_law_word ds M Q) : t_u_law_word sp_u_law_draw (endsD M Q) (startD 6 ds) M := by
  obtain ⟨z, most, rfl, hM, ⟨z1, z2, z3⟩, hm, q⟩ := h
  show t_u_law_word _ (endsD _ Q) [some (.ref 1), some (.str z), some (.int most), none, none, none] _
  unfold t_u_law_word
  walk_at "dl"
  refine draw_at hM (by omega) fun v2 L1 hL1 hv2 => ?_
  refine addR_int ?_
  try dsimp only
  refine ⟨rfl, ?_⟩
  refine draw_at (many := 5) hL1 (by omega) fun v L2 hL2 hv => ?_
  refine addR_int ?_
  try dsimp only
  refine ⟨by omega, by omega, ?_⟩
  have e1 : ((1 : Int) + (v : Nat)).toNat = 1 + v := by omega
  rw [e1]
  refine picks z1 (by omega) hL2 (by omega) rfl rfl (by omega) fun ys L3 hL3 hl hy => ?_
  have one : ∀ y ∈ ys, One y := fun y h => signs_one (hy y h)
  have es := signs_join_one one
  refine joinR_at rfl (by rw [ones_sum one]; omega) ?_
  have hbl : (Txt.join ⟨#[]⟩ ys).length = 1 + v := by rw [DL.len_signs, es]; exact hl
  have hbi : In (signs z) (Txt.join ⟨#[]⟩ ys) := fun c hc => by rw [es] at hc; exact hy c hc
  generalize Txt.join ⟨#[]⟩ ys = block at hbl hbi
  try dsimp only
  refine lenR_str (small' (by omega)) ?_
  rw [hbl]
  refine fdivR_int ⟨by omega, by omega⟩ ?_
  try dsimp only
  obtain ⟨k, ek, hk⟩ := fdiv_small (a := 1 + v2) (b := 1 + v) (by omega)
  have ek' : ((1 : Int) + (v2 : Nat)).fdiv ((1 + v : Nat) : Int) = k := ek
  rw [ek']
  refine addR_int ?_
  have ek2 : ((k : Nat) : Int) + 1 = ((k + 1 : Nat) : Int) := rfl
  rw [ek2]
  refine mulR_str (mulOk (by omega) (by omega)) ?_
  have hml := mul_len block (n := ((k + 1 : Nat) : Int)) (by omega)
  rw [Int.toNat_natCast, hbl] at hml
  have hml2 : (Txt.mul block ((k + 1 : Nat) : Int)).length ≤ 5 * 101 := Nat.le_trans hml (Nat.mul_le_mul (by omega) (by omega))
  try dsimp only
  refine sliceR_str (small' (by omega)) ?_
  try dsimp only
  have hti : In (signs z) (cutS (Txt.mul block ((k + 1 : Nat) : Int)) none (some (1 + (v2 : Nat)))) := fun c hc => hbi c (signs_mul (signs_cut hc))
  have htl := Nat.le_trans (cutS_length (Txt.mul block ((k + 1 : Nat) : Int)) none (some (1 + (v2 : Nat)))) hml2
  exact .inl (q _ _ hL3 (by omega) hti)
end K

set_option Elab.async false
set_option linter.all false
set_option maxRecDepth 100000
set_option maxHeartbeats 2000000
namespace K
open PySem L2 DL
open PyProof.Rows hiding St signs inR
local macro_rules | `(tactic| walk_at "dl") => `(tactic| dsimp only [dSeq, dAsg, dgName, dVar, dC, dOp, dUn, dCB, dCons, dNil, dTup, dLst, dLstM, dNewK, dNewN, dRet, dRetN, dDrop, dIfS, dNext, dNever, dB, dAnd, dOr, dNot, dAndV, dOrV, dNotV, dIf, dMeth, dSl, dPart, dNoPart, dFor, dIter, dSetF, dFld, dMake0, dMethO, dKeysN, dEnumT, dRange1, dRange2, dZip, dEnum, dLc, dLcM, dDc, dSortSet, dCall, dgSeq, dgSub, dgCons, dgNil, dPar, dAug, dBreak, dCont, dYes, endsD, slot, List.set_cons_zero, List.set_cons_succ, itemsD, listR, listRM, tupleR, viewL, viewS, DL.intOf, dwipe, setAll, Shape.bind])
theorem ixR_signL {z : Str} {c : Str} {M : Store} {Q : DK} (hz : z.length ≤ sizeLine) (h1 : 1 ≤ z.length) (h : (signs z)[z.length - 1]? = some c) (q : Q (.str c) M) : ixR (.str z) (.int (-1)) M Q := by
  unfold signs at h
  rw [List.getElem?_map] at h
  obtain ⟨x, ex, rfl⟩ := Option.map_eq_some_iff.mp h
  have hl : z.cps.toList.length = z.length := by simp [Str.length]
  have e : ixD M (.str z) (.int (-1)) = some (.str ⟨#[x]⟩) := by
    show ((some (-1 : Int)).bind fun i => (atI z.cps.toList i).map fun c => D.str ⟨#[c]⟩) = _
    have e2 : atI z.cps.toList (-1) = some x := by
      unfold atI
      have : ixN z.cps.toList.length (-1) = some (z.length - 1) := by
        unfold ixN
        rw [if_neg (by omega), if_pos (by omega), hl]
        congr 1
        omega
      rw [this]
      exact ex
    show (atI z.cps.toList (-1)).map _ = _
    rw [e2]
    rfl
  unfold ixR
  rw [e]
  exact ⟨hz, q⟩
theorem ddS_ge : ∀ (r l : List Str), 1 ≤ l.length + r.length → 1 ≤ (ddS l r).length
  | [], l, h => h
  | k :: r, l, h => by
    show 1 ≤ (ddS (if k ∈ l then l else k :: l) r).length
    refine ddS_ge r _ ?_
    split
    · rename_i hk
      have := List.length_pos_of_mem hk
      omega
    · rw [List.length_cons]
      omega
/-- a corpus whose sums stay below 10^14 -/
def CorpG (cs : List (Str × Int)) : Prop := CorpS cs ∧ cs.length ≤ 101 ∧ 1 ≤ cs.length ∧ ∀ x ∈ cs, x.1.length ≤ 600 ∧ 0 ≤ x.2 ∧ x.2 ≤ 1000000000
def sp_u_law_corpus : DSp := fun ds M Q => ∃ (z : Str) (most many : Nat), ds = [.ref 1, .str z, .int most, .int many] ∧ PS M ∧ LetsOk z ∧ most ≤ 100 ∧ many ≤ 100 ∧
  ∀ (cs : List (Str × Int)) (M' : Store), PS M' → CorpG cs → Q (.tup (cs.map wordD)) M'
theorem dat_u_law_corpus (ds : List D) (M : Store) (Q : DK) (h : sp_u_law_corpus ds M Q) : t_u_law_corpus sp_u_law_word sp_u_law_draw sp_u_law_count (endsD M Q) (startD 8 ds) M := by
  obtain ⟨z, most, many, rfl, hM, hz, hm1, hm2, q⟩ := h
  show t_u_law_corpus _ _ _ (endsD _ Q) [some (.ref 1), some (.str z), some (.int most), some (.int many), none, none, none, none] _
  unfold t_u_law_corpus
  have h0 : 0 < (signs z).length := by rw [← DL.len_signs]; exact hz.1
  have hl1 : z.length - 1 < (signs z).length := by rw [← DL.len_signs]; have := hz.1; omega
  have s0 : (signs z)[0]? = some (signs z)[0] := List.getElem?_eq_getElem h0
  have s1 : (signs z)[z.length - 1]? = some (signs z)[z.length - 1] := List.getElem?_eq_getElem hl1
  have m0 : (signs z)[0] ∈ signs z := List.getElem_mem _
  have m1 : (signs z)[z.length - 1] ∈ signs z := List.getElem_mem _
  generalize (signs z)[0] = c0 at s0 m0
  generalize (signs z)[z.length - 1] = c1 at s1 m1
  have hzl := hz.2.1
  walk_at "dl"
  refine ixR_sign (n := 0) (small' (by omega)) s0 (negR_int (ixR_signL (small' (by omega)) hz.1 s1 ?_))
  have o0 := one_len (signs_one m0)
  have o1 := one_len (signs_one m1)
  refine addR_str (small' (by omega)) ?_
  have i01 : In (signs z) (c0 ++ c1) := .app (fun c hc => by rw [signs_one_eq (signs_one m0)] at hc; rw [List.mem_singleton.mp hc]; exact m0) (fun c hc => by rw [signs_one_eq (signs_one m1)] at hc; rw [List.mem_singleton.mp hc]; exact m1)
  have l01 : (c0 ++ c1).length ≤ 600 := by rw [len_app]; omega
  generalize c0 ++ c1 = w0 at i01 l01
  try dsimp only
  refine ⟨(by show 1 ≤ sizeLine; decide), by omega, by omega, ?_⟩
  rw [Int.toNat_natCast]
  refine lc_inv (fun i M acc => PS M ∧ ∃ ys : List Str, acc = ys.map D.str ∧ ys.length = i ∧ ∀ y ∈ ys, y.length ≤ 600 ∧ In (signs z) y) ⟨hM, [], rfl, rfl, fun y hy => by cases hy⟩ (fun i x M acc ex h => ?_) fun M acc h => ?_
  · obtain ⟨hL, ys, rfl, hl, hy⟩ := h
    obtain ⟨rfl, hi⟩ := range_item ex
    refine ⟨trivial, _, rfl, fun go k => ?_⟩
    walk_at "dl"
    rw [if_pos rfl]
    refine ⟨z, most, rfl, hL, hz, hm1, fun w L' hL' hw hi' => ⟨by rw [List.length_map]; exact small (by omega), k _ _ ⟨hL', ys ++ [w], by rw [List.map_append]; rfl, by rw [List.length_append, List.length_singleton, hl], fun y hy' => ?_⟩⟩⟩
    rcases List.mem_append.mp hy' with h | h
    · exact hy y h
    · rw [List.mem_singleton.mp h]
      exact ⟨hw, hi'⟩
  obtain ⟨hL, ws, rfl, hl, hy⟩ := h
  rw [range_len] at hl
  refine ⟨trivial, ?_⟩
  show ([D.str w0] : List D).length + (ws.map D.str).length ≤ sizeLine ∧ _
  refine ⟨by rw [List.length_map]; exact small' (show 1 + ws.length ≤ 16000000 by omega), ?_⟩
  try dsimp only
  refine draw_at (many := 6) hL (by omega) fun v L1 hL1 hv => addR_int ?_
  try dsimp only
  have hy' : ∀ y ∈ w0 :: ws, y.length ≤ 600 ∧ In (signs z) y := fun y h => (List.mem_cons.mp h).elim (fun e => e ▸ ⟨l01, i01⟩) (hy y)
  have hl' : (w0 :: ws).length = many + 1 := by rw [List.length_cons, hl]
  refine ⟨w0 :: ws, rfl, Nat.lt_of_le_of_lt (by omega : (w0 :: ws).length ≤ 101) (by decide), ?_⟩
  have hne : 1 ≤ (sortS (ddS [] (w0 :: ws))).length := by
    rw [sortS_len]
    exact ddS_ge (w0 :: ws) [] (by simp)
  have hsl : (sortS (ddS [] (w0 :: ws))).length ≤ 101 := by
    have := ddS_len (w0 :: ws) []
    rw [List.length_nil] at this
    rw [sortS_len]
    omega
  have hmem : ∀ c ∈ sortS (ddS [] (w0 :: ws)), c.length ≤ 600 ∧ In (signs z) c := fun c hc => by
    rcases ddS_mem (sortS_mem.mp hc) with h | h
    · cases h
    · exact hy' c h
  generalize sortS (ddS [] (w0 :: ws)) = ks at hsl hmem hne
  try dsimp only
  refine lc_inv (fun i M acc => PS M ∧ ∃ cs : List (Str × Int), acc = cs.map wordD ∧ cs.length = i ∧ ∀ x ∈ cs, x.1 ∈ ks ∧ 0 ≤ x.2 ∧ x.2 ≤ 1000000000) ⟨hL1, [], rfl, rfl, fun y hy => by cases hy⟩ (fun i x M acc ex h => ?_) fun M acc h => ?_
  · obtain ⟨hL, cs, rfl, hl, hc⟩ := h
    rw [List.getElem?_map] at ex
    obtain ⟨c, ec, rfl⟩ := Option.map_eq_some_iff.mp ex
    have hi : i < ks.length := (List.getElem?_eq_some_iff.mp ec).1
    refine ⟨rfl, _, rfl, fun go k => ?_⟩
    walk_at "dl"
    rw [if_pos rfl]
    refine ⟨_, rfl, by omega, by omega, hL, fun v L' hL' hv0 hv1 => ⟨(by show 2 ≤ sizeLine; decide), by rw [List.length_map]; exact small (by omega), k _ _ ⟨hL', cs ++ [(c, v)], by rw [List.map_append]; rfl, by rw [List.length_append, List.length_singleton, hl], fun y hy' => ?_⟩⟩⟩
    rcases List.mem_append.mp hy' with h | h
    · exact hc y h
    · rw [List.mem_singleton.mp h]
      exact ⟨List.mem_of_getElem? ec, hv0, hv1⟩
  obtain ⟨hL2, cs, rfl, hl2, hc⟩ := h
  rw [List.length_map] at hl2
  have hml : ∀ x ∈ cs, x.1.length ≤ 600 ∧ In (signs z) x.1 := fun x hx => hmem _ (hc x hx).1
  refine ⟨rfl, .inl (q cs M hL2 ⟨⟨⟨by omega, fun x hx => Nat.lt_of_le_of_lt (hml x hx).1 (by decide)⟩, fun x hx => (hml x hx).2.ok hz.2.2⟩, by omega, by omega, fun x hx => ⟨(hml x hx).1, (hc x hx).2⟩⟩)⟩
end K

set_option Elab.async false
set_option linter.all false
set_option maxRecDepth 100000
set_option maxHeartbeats 2000000
namespace K
open PySem L2 DL
open PyProof.Rows hiding St signs inR
local macro_rules | `(tactic| walk_at "dl") => `(tactic| dsimp only [dSeq, dAsg, dgName, dVar, dC, dOp, dUn, dCB, dCons, dNil, dTup, dLst, dLstM, dNewK, dNewN, dRet, dRetN, dDrop, dIfS, dNext, dNever, dB, dAnd, dOr, dNot, dAndV, dOrV, dNotV, dIf, dMeth, dSl, dPart, dNoPart, dFor, dIter, dSetF, dFld, dMake0, dMethO, dKeysN, dEnumT, dRange1, dRange2, dZip, dEnum, dLc, dLcM, dDc, dSortSet, dCall, dgSeq, dgSub, dgCons, dgNil, dPar, dAug, dBreak, dCont, dYes, endsD, slot, List.set_cons_zero, List.set_cons_succ, itemsD, listR, listRM, tupleR, viewL, viewS, DL.intOf, dwipe, setAll, Shape.bind])
theorem head4 {z : Str} {M : Store} {x : Int} {Q : DK} (ps : List Nat) (n : Nat) (hn : 0 < n) (hz : n ≤ z.length) (hz2 : z.length ≤ 1000) (hps : ∀ p ∈ ps, 0 < p ∧ p < 1000) (hl : ps.length ≤ 100) {a b c d e f : Option D}
    (q : ∀ w : Str, w.length = ps.length → In (signs z) w → Q (.str w) M) :
    lcGo (.one 6) [6] (fun _ => True) dYes (dOp ixR (dVar 1) (dOp modR (dOp fdivR (dVar 3) (dVar 6)) (dC (.int (n : Nat))))) [a, some (.str z), b, some (.int x), c, d, e, f] (ps.map fun p => D.int (p : Nat)) M [] fun acc M2 => joinR (.str ⟨#[]⟩) [.lst acc] M2 Q := by
  refine lc_signs (z := z) trivial (by rw [List.length_map]; omega) (fun x' hx => ?_) fun ys hl' hy => ?_
  · obtain ⟨p, hp, rfl⟩ := List.mem_map.mp hx
    obtain ⟨c', hc, st⟩ := sign_of (M := M) (x := x) (hps p hp).1 (hps p hp).2 hn hz hz2
    refine ⟨_, rfl, c', hc, fun K k => ?_⟩
    walk_at "dl"
    exact st K k
  · obtain ⟨h1, h2, h3⟩ := join_ok hy
    rw [List.length_map] at hl'
    exact joinR_at rfl (by rw [h3]; omega) (q _ (by rw [h1, hl']) h2)
def sp_u_law_wide : DSp := fun ds M Q => ∃ z : Str, ds = [.ref 1, .str z] ∧ PS M ∧ LetsOk z ∧ 2 ≤ z.length ∧ ∀ (cs : List (Str × Int)) (M' : Store), PS M' → CorpG cs → cs.length = 40 → Q (.tup (cs.map wordD)) M'
theorem dat_u_law_wide (ds : List D) (M : Store) (Q : DK) (h : sp_u_law_wide ds M Q) : t_u_law_wide sp_u_law_draw (endsD M Q) (startD 8 ds) M := by
  obtain ⟨z, rfl, hM, hz, hz2, q⟩ := h
  obtain ⟨z1, z3, z4⟩ := id hz
  have hM0 := hM
  obtain ⟨gs, a, m, rfl⟩ := hM
  show t_u_law_wide _ (endsD _ Q) [some (.ref 1), some (.str z), none, none, none, none, none, none] _
  unfold t_u_law_wide
  walk_at "dl"
  refine ⟨Nat.zero_le _, by decide, by decide, ?_⟩
  refine for_inv (fun i ρ M' => ∃ (L : Store) (cs : List (Str × Int)) (a b c d e : Option D), ρ = [some (.ref 1), some (.str z), some (.ref 2), a, b, c, d, e] ∧ PS L ∧ M' = L ++ [.lst (cs.map wordD)] ∧ cs.length = i ∧ ∀ x ∈ cs, (x.1.length ≤ 600 ∧ In (signs z) x.1) ∧ 0 ≤ x.2 ∧ x.2 ≤ 1000000000)
    ⟨_, [], none, none, none, none, none, rfl, hM0, rfl, rfl, fun x hx => by cases hx⟩ ?_ ?_
  · rintro i x ρ M' ex ⟨L, cs, a, b, c, d, e, rfl, hL, rfl, hl, hc⟩
    obtain ⟨rfl, hi⟩ := range_item ex
    have hi : i < 40 := hi
    refine ⟨trivial, fun go k => ?_⟩
    walk_at "dl"
    refine ⟨rfl, (by show 6 ≤ sizeLine; decide), ?_⟩
    try dsimp only
    refine head4 [32, 16, 8, 4, 2, 1] 2 (by omega) (by omega) (by omega) (by decide) (by decide) fun hd hw h2 => ?_
    have h1 : hd.length ≤ 6 := by rw [hw]; decide
    try dsimp only
    refine ⟨rfl, ?_⟩
    refine ⟨L, [.lst (cs.map wordD)], 2, rfl, rfl, hL, by decide, fun v L1 hL1 hv => subR_int ?_⟩
    try dsimp only
    refine ⟨by omega, by omega, ?_⟩
    have en : ((74 : Int) - (v : Nat)).toNat = 74 - v := by omega
    rw [en]
    refine picksR (n := 74 - v) (kk := 7) z1 (by omega) hL1 (by omega) rfl rfl (by omega) fun ys L2 hL2 hys hy => ?_
    obtain ⟨j1, j2, j3⟩ := join_ok hy
    refine joinR_at rfl (by rw [j3]; omega) ?_
    generalize Txt.join ⟨#[]⟩ ys = body at j1 j2
    have e2 := hL2.len
    have eM : (L2 ++ [MO.lst (cs.map wordD)])[2]? = some (.lst (cs.map wordD)) := by rw [← e2]; exact get_at0 _ _
    refine ⟨tyM_lst eM, ?_⟩
    refine addR_str (small' (by omega)) ?_
    refine powR_int (by unfold CPow; decide) (powR_int (by unfold CPow; decide) (addR_int ?_))
    refine ⟨L2, [.lst (cs.map wordD)], 1000000001, rfl, rfl, hL2, by decide, fun v2 L3 hL3 hv2 => subR_int ?_⟩
    refine ⟨(by show 2 ≤ sizeLine; decide), ?_⟩
    have e3 := hL3.len
    refine append_cell (ds := cs.map wordD) (by rw [← e3]; exact get_at0 _ _) (by rw [List.length_map]; exact small (by omega)) ?_
    have es : ∀ o : MO, (L3 ++ [MO.lst (cs.map wordD)]).set 2 o = L3 ++ [o] := fun o => by
      rw [← e3]
      exact set_at0 _ _ _
    rw [es]
    have e10 : (10 : Int) ^ (9 : Int).toNat = 1000000000 := by decide
    rw [e10]
    refine .inl (k _ _ ⟨L3, cs ++ [(hd ++ body, _)], _, _, _, _, _, rfl, hL3, by rw [List.map_append]; rfl, by rw [List.length_append, List.length_singleton, hl], fun x hx => ?_⟩)
    rcases List.mem_append.mp hx with h | h
    · exact hc x h
    · rw [List.mem_singleton.mp h]
      exact ⟨⟨by rw [len_app]; omega, h2.app j2⟩, by show (0 : Int) ≤ 1000000000 - (v2 : Nat); omega, by show (1000000000 : Int) - (v2 : Nat) ≤ 1000000000; omega⟩
  · rintro ρ M' ⟨L, cs, a, b, c, d, e, rfl, hL, rfl, hl, hc⟩
    refine ⟨trivial, ?_⟩
    have hl : cs.length = 40 := hl
    dsimp only [dRet, dCB, dCons, dNil, dVar, slot, tupleR]
    have e2 := hL.len
    rw [viewS_cell (k := 2) (ds := cs.map wordD) (by rw [← e2]; exact get_at0 _ _)]
    refine K.RetOk.pool hM0 hL (.keep ?_) (q cs L hL ⟨⟨⟨by omega, fun x hx => Nat.lt_of_le_of_lt (hc x hx).1.1 (by decide)⟩, fun x hx => (hc x hx).1.2.ok z4⟩, by omega, by omega, fun x hx => ⟨(hc x hx).1.1, (hc x hx).2⟩⟩ hl)
    refine belows_iff.mpr fun d hd => ?_
    obtain ⟨x, _, rfl⟩ := List.mem_map.mp hd
    exact ⟨trivial, trivial, trivial⟩
end K

set_option Elab.async false
set_option linter.all false
set_option maxRecDepth 100000
set_option maxHeartbeats 2000000
namespace K
open PySem L2 DL
open PyProof.Rows hiding St signs inR
local macro_rules | `(tactic| walk_at "dl") => `(tactic| dsimp only [dSeq, dAsg, dgName, dVar, dC, dOp, dUn, dCB, dCons, dNil, dTup, dLst, dLstM, dNewK, dNewN, dRet, dRetN, dDrop, dIfS, dNext, dNever, dB, dAnd, dOr, dNot, dAndV, dOrV, dNotV, dIf, dMeth, dSl, dPart, dNoPart, dFor, dIter, dSetF, dFld, dMake0, dMethO, dKeysN, dEnumT, dRange1, dRange2, dZip, dEnum, dLc, dLcM, dDc, dSortSet, dCall, dgSeq, dgSub, dgCons, dgNil, dPar, dAug, dBreak, dCont, dYes, endsD, slot, List.set_cons_zero, List.set_cons_succ, itemsD, listR, listRM, tupleR, viewL, viewS, DL.intOf, dwipe, setAll, Shape.bind])
theorem ite_t {A B : Prop} (h : A) : if true = true then A else B := (if_pos rfl).symm ▸ h
theorem ite_f {A B : Prop} (h : B) : if false = true then A else B := (if_neg Bool.false_ne_true).symm ▸ h
theorem ite_nt {A B : Prop} (h : B) : if (!true) = true then A else B := ite_f h
theorem ite_nf {A B : Prop} (h : A) : if (!false) = true then A else B := ite_t h
/-! the store of _law_rules: the list of lines, the lines, the rules, what is joined, things left over -/
def lineC (x : List Str × Int) : MO := .lst [rowD x.1, .int x.2]
def refsD (B k : Nat) : List D := (List.range k).map fun j => .ref (B + 1 + j)
theorem refsD_succ (B k : Nat) : refsD B (k + 1) = refsD B k ++ [.ref (B + 1 + k)] := by
  unfold refsD
  rw [List.range_succ, List.map_append]
  rfl
theorem refsD_get {B k j : Nat} {x : D} (h : (refsD B k)[j]? = some x) : x = .ref (B + 1 + j) ∧ j < k := by
  unfold refsD at h
  rw [List.getElem?_map] at h
  obtain ⟨y, ey, rfl⟩ := Option.map_eq_some_iff.mp h
  have hj := (List.getElem?_eq_some_iff.mp ey).1
  rw [List.length_range] at hj
  rw [List.getElem?_range hj] at ey
  cases ey
  exact ⟨rfl, hj⟩
theorem refsD_len (B k : Nat) : (refsD B k).length = k := by unfold refsD; rw [List.length_map, List.length_range]
def LS (M : Store) (rcs : Rcs) (acc : List Pair) (tk : Tk) (G : Store) : Store := M ++ (.lst (refsD M.length rcs.length) :: (rcs.map lineC ++ (.lst (acc.map pD) :: .dk (encT tk) :: G)))
variable {M : Store} {rcs : Rcs} {acc : List Pair} {tk : Tk} {G : Store}
theorem LS.app (G' : Store) : LS M rcs acc tk G ++ G' = LS M rcs acc tk (G ++ G') := by simp [LS]
theorem LS.lines : (LS M rcs acc tk G)[M.length]? = some (.lst (refsD M.length rcs.length)) := get_at0 _ _
theorem LS.line {j : Nat} {x : List Str × Int} (h : rcs[j]? = some x) : (LS M rcs acc tk G)[M.length + 1 + j]? = some (.lst [rowD x.1, .int x.2]) := by
  unfold LS
  rw [Nat.add_assoc, get_at, Nat.add_comm 1 j, List.getElem?_cons_succ, List.getElem?_append_left (by rw [List.length_map]; exact (List.getElem?_eq_some_iff.mp h).1), List.getElem?_map, h]
  rfl
theorem LS.rest (k : Nat) : (LS M rcs acc tk G)[M.length + 1 + rcs.length + k]? = (.lst (acc.map pD) :: .dk (encT tk) :: G : Store)[k]? := by
  unfold LS
  have e : M.length + 1 + rcs.length + k = M.length + ((rcs.length + k) + 1) := by omega
  rw [e, get_at, List.getElem?_cons_succ, List.getElem?_append_right (by rw [List.length_map]; omega)]
  congr 1
  rw [List.length_map]
  omega
theorem LS.gAcc : (LS M rcs acc tk G)[M.length + 1 + rcs.length]? = some (.lst (acc.map pD)) := LS.rest 0
theorem LS.gTk : (LS M rcs acc tk G)[M.length + 1 + rcs.length + 1]? = some (.dk (encT tk)) := LS.rest 1
theorem LS.setRest (k : Nat) (o : MO) : (LS M rcs acc tk G).set (M.length + 1 + rcs.length + k) o = M ++ (.lst (refsD M.length rcs.length) :: (rcs.map lineC ++ (.lst (acc.map pD) :: .dk (encT tk) :: G : Store).set k o)) := by
  unfold LS
  have e : M.length + 1 + rcs.length + k = M.length + ((rcs.length + k) + 1) := by omega
  rw [e, set_at, List.set_cons_succ, List.set_append_right _ _ (by rw [List.length_map]; omega)]
  congr 4
  rw [List.length_map]
  omega
theorem LS.setAcc (acc' : List Pair) : (LS M rcs acc tk G).set (M.length + 1 + rcs.length) (.lst (acc'.map pD)) = LS M rcs acc' tk G := LS.setRest 0 _
theorem LS.setTk (tk' : Tk) : (LS M rcs acc tk G).set (M.length + 1 + rcs.length + 1) (.dk (encT tk')) = LS M rcs acc tk' G := LS.setRest 1 _
theorem LS.setLine {j : Nat} {y : List Str × Int} (h : j < rcs.length) : (LS M rcs acc tk G).set (M.length + 1 + j) (lineC y) = LS M (rcs.set j y) acc tk G := by
  unfold LS
  rw [Nat.add_assoc, set_at, Nat.add_comm 1 j, List.set_cons_succ, List.set_append_left _ _ (by rw [List.length_map]; exact h), ← List.map_set, List.length_set]
theorem LS.len : (LS M rcs acc tk G).length = M.length + 1 + rcs.length + 2 + G.length := by
  unfold LS
  simp
  omega
theorem mix_set {α : Type} {A B : List α} {i : Nat} {a : α} (h : A.length = B.length) (e : A[i]? = some a) : (A.take i ++ B.drop i).set i a = A.take (i + 1) ++ B.drop (i + 1) := by
  have hi := (List.getElem?_eq_some_iff.mp e).1
  rw [List.set_append_right _ _ (by rw [List.length_take]; omega), List.length_take, Nat.min_eq_left (by omega), Nat.sub_self, List.drop_eq_getElem_cons (by omega), List.set_cons_zero, List.take_add_one, e, List.append_assoc]
  rfl
theorem mix_get {α : Type} {A B : List α} {i : Nat} (h : A.length = B.length) (hi : i < B.length) : (A.take i ++ B.drop i)[i]? = B[i]? := by
  rw [List.getElem?_append_right (by rw [List.length_take]; omega), List.length_take, Nat.min_eq_left (by omega), Nat.sub_self, List.getElem?_drop]
  rfl
theorem mix_len {α : Type} {A B : List α} {i : Nat} (h : A.length = B.length) : (A.take i ++ B.drop i).length = B.length := by
  rw [List.length_append, List.length_take, List.length_drop]
  omega
theorem last_get (X : Store) (c : MO) : (X ++ [c])[X.length]? = some c := get_at0 X [c]
theorem last_set (X : Store) (c o : MO) : (X ++ [c]).set X.length o = X ++ [o] := set_at0 X [c] o
/-- a counted dict in a cell -/
theorem found_ref {f : F} {k : Pair} {v : Int} {n : Nat} {M : Store} {Q : DK} (e : M[n]? = some (.dn (encF f))) (h : aGet f k = some v) (q : Q (.int v) M) : ixR (.ref n) (pD k) M Q := by
  have e0 : viewS M (.ref n) = none := by
    show (match M[n]? with | some (.lst ds) => some ds | _ => none) = none
    rw [e]
  have e1 : ixD M (.ref n) (pD k) = some (.int v) := by
    show (match viewS M (.ref n) with | some ds => (intOf (pD k)).bind (atI ds) | none => (dGet M (.ref n) (pD k)).bind id) = _
    rw [e0]
    dsimp only
    rw [show dGet M (.ref n) (pD k) = some (aGet (encF f) (kP k)) from dGet_dn (k := kP k) e (tkey_P _ _) (depth_P k), encF_get, h]
    rfl
  unfold ixR
  rw [e1]
  exact ⟨trivial, q⟩
theorem srcR_F {n : Nat} {f : F} {M : Store} (e : M[n]? = some (.dn (encF f))) : srcD M (.ref n) = some ((f.map (·.1)).map pD) := by
  have : srcD M (.ref n) = some ((encF f).map fun p => kD p.1) := by
    simp [srcD, e]
  rw [this]
  exact src_F M f
theorem sorted_ref {f : F} {n : Nat} {M : Store} {Q : DK} (e : M[n]? = some (.dn (encF f))) (hl : f.length ≤ sizeLine) (q : Q (.lst ((sortP (f.map (·.1))).map pD)) M) : sortedR [.ref n] M Q :=
  ⟨Pair, f.map fun x : Pair × Int => x.1, pD, encP, srcR_F e, srtP M _ (by rw [List.length_map]; exact hl), q⟩
/-- what the pick holds -/
def PickI (f : F) (bm : Option Pair × Int) : Prop := match bm.1 with | none => bm.2 = 0 | some q => aGet f q = some bm.2 ∧ 0 < bm.2
theorem PickI.step {f : F} {bm : Option Pair × Int} {k : Pair} {v : Int} (h : PickI f bm) (ev : aGet f k = some v) : PickI f (pickStep f bm k) := by
  have hv : 0 ≤ bm.2 := by
    obtain ⟨b, m⟩ := bm
    cases b with
    | none => exact Int.le_of_eq h.symm
    | some q => exact Int.le_of_lt h.2
  unfold pickStep
  rw [ev]
  show PickI f (if bm.2 < v then (some k, v) else bm)
  split
  · exact ⟨ev, by show 0 < v; omega⟩
  · exact h
end K

set_option Elab.async false
set_option linter.all false
set_option maxRecDepth 100000
set_option maxHeartbeats 2000000
namespace K
open PySem L2 DL
open PyProof.Rows hiding St signs inR
local macro_rules | `(tactic| walk_at "dl") => `(tactic| dsimp only [dSeq, dAsg, dgName, dVar, dC, dOp, dUn, dCB, dCons, dNil, dTup, dLst, dLstM, dNewK, dNewN, dRet, dRetN, dDrop, dIfS, dNext, dNever, dB, dAnd, dOr, dNot, dAndV, dOrV, dNotV, dIf, dMeth, dSl, dPart, dNoPart, dFor, dIter, dSetF, dFld, dMake0, dMethO, dKeysN, dEnumT, dRange1, dRange2, dZip, dEnum, dLc, dLcM, dDc, dSortSet, dCall, dgSeq, dgSub, dgCons, dgNil, dPar, dAug, dBreak, dCont, dYes, endsD, slot, List.set_cons_zero, List.set_cons_succ, itemsD, listR, listRM, tupleR, viewL, viewS, DL.intOf, dwipe, setAll, Shape.bind])
def sp_u_law_rules : DSp := fun ds M Q => ∃ (cs : List (Str × Int)) (e n : Nat) (c : Int), ds = [.tup (cs.map wordD), .int e, .int c, .int n] ∧ CorpS cs ∧ n < 100000 ∧ Q (.lst ((rulesOf (trained (setC cs e c) n)).map pD)) M
theorem rows_setC {cs : List (Str × Int)} {e : Nat} {c : Int} {i : Nat} {x : Str × Int} (h : cs[i]? = some x) : (rows0 (setC cs e c))[i]? = some (signs x.1, if i = e then c else x.2) := by
  unfold rows0 setC
  rw [List.getElem?_map, List.getElem?_mapIdx, h]
  rfl
theorem setC_len (cs : List (Str × Int)) (e : Nat) (c : Int) : (setC cs e c).length = cs.length := by unfold setC; rw [List.length_mapIdx]
theorem setC_mem {cs : List (Str × Int)} {e : Nat} {c : Int} {y : Str × Int} (h : y ∈ setC cs e c) : ∃ x ∈ cs, y.1 = x.1 ∧ (y.2 = c ∨ y.2 = x.2) := by
  unfold setC at h
  obtain ⟨i, hi, rfl⟩ := List.mem_mapIdx.mp h
  refine ⟨cs[i], List.getElem_mem _, rfl, ?_⟩
  dsimp only
  split
  · exact .inl rfl
  · exact .inr rfl
theorem setC_S {cs : List (Str × Int)} {e : Nat} {c : Int} (h : CorpS cs) : CorpS (setC cs e c) := by
  refine ⟨⟨by rw [setC_len]; exact h.1.1, fun y hy => ?_⟩, fun y hy => ?_⟩
  · obtain ⟨x, hx, e1, _⟩ := setC_mem hy
    rw [e1]
    exact h.1.2 x hx
  · obtain ⟨x, hx, e1, _⟩ := setC_mem hy
    rw [e1]
    exact h.2 x hx
theorem dat_u_law_rules (ds : List D) (M : Store) (Q : DK) (h : sp_u_law_rules ds M Q) : t_u_law_rules sp_u_law_joined (endsD M Q) (startD 16 ds) M := by
  obtain ⟨cs, ee, n, c, rfl, ok, hn, q⟩ := h
  show t_u_law_rules _ (endsD M Q) [some (.tup (cs.map wordD)), some (.int (ee : Nat)), some (.int c), some (.int (n : Nat)), none, none, none, none, none, none, none, none, none, none, none, none] M
  unfold t_u_law_rules
  have hcl := ok.1.1
  have ok0 := rows0_all (setC_S (e := ee) (c := c) ok)
  have el : (rows0 (setC cs ee c)).length = cs.length := by unfold rows0; rw [List.length_map, setC_len]
  generalize hR : rows0 (setC cs ee c) = R0 at ok0 el
  walk_at "dl"
  refine ⟨Nat.zero_le _, ?_⟩
  refine lenR_tup ?_
  try dsimp only
  rw [List.length_map]
  refine ⟨by omega, by omega, ?_⟩
  rw [Int.toNat_natCast]
  refine for_inv (fun i ρ M' => ∃ a, ρ = [some (.tup (cs.map wordD)), some (.int (ee : Nat)), some (.int c), some (.int (n : Nat)), some (.ref M.length), a, none, none, none, none, none, none, none, none, none, none] ∧
      M' = M ++ (.lst (refsD M.length i) :: (R0.take i).map lineC)) ⟨none, rfl, rfl⟩ ?_ ?_
  · rintro i x ρ M' ex ⟨a, rfl, rfl⟩
    obtain ⟨rfl, hi⟩ := range_item ex
    refine ⟨trivial, fun go k => ?_⟩
    have ec : cs[i]? = some cs[i] := List.getElem?_eq_getElem hi
    generalize cs[i] = w at ec
    have er : R0[i]? = some (signs w.1, if i = ee then c else w.2) := by rw [← hR]; exact rows_setC ec
    have hw := ok.1.2 w (List.mem_of_getElem? ec)
    walk_at "dl"
    refine ⟨tyM_lst (get_at0 _ _), ?_⟩
    refine ixR_tupm ec (ixR_tup (n := 0) rfl ?_)
    try dsimp only
    refine lc_map (sh := .one 15) trivial D.str D.str (signs w.1) (small' (by rw [signs_len]; omega)) (fun c hc => ⟨_, rfl, fun K k => k⟩) ?_
    have tail : ∀ v : Int, v = (if i = ee then c else w.2) → 2 ≤ sizeLine ∧ appendR (.ref M.length) [.ref (M ++ MO.lst (refsD M.length i) :: (R0.take i).map lineC).length] ((M ++ MO.lst (refsD M.length i) :: (R0.take i).map lineC) ++ [.lst [.lst ((signs w.1).map D.str), .int v]])
        fun _ M1 => TurnOk (M ++ MO.lst (refsD M.length i) :: (R0.take i).map lineC) [some (.tup (cs.map wordD)), some (.int (ee : Nat)), some (.int c), some (.int (n : Nat)), some (.ref M.length), some (.int (i : Nat)), none, none, none, none, none, none, none, none, none, none] M1 go := fun v hv => by
      refine ⟨by decide, ?_⟩
      rw [List.append_assoc]
      refine append_cell (ds := refsD M.length i) (get_at0 _ _) (by rw [refsD_len]; exact small (by omega)) ?_
      rw [List.cons_append, set_at0, List.set_cons_zero]
      refine .inl (k _ _ ⟨_, rfl, ?_⟩)
      have elen : (M ++ MO.lst (refsD M.length i) :: (R0.take i).map lineC).length = M.length + 1 + i := by
        rw [List.length_append, List.length_cons, List.length_map, List.length_take, Nat.min_eq_left (by omega)]
        omega
      rw [elen, refsD_succ, List.take_add_one, er, List.map_append, hv]
      rfl
    refine eqR_int ?_
    try dsimp only
    refine ite_dec (fun h => ?_) (fun h => ?_)
    · exact tail c (by rw [if_pos (by omega)])
    · refine ixR_tupm ec (ixR_tup (n := 1) rfl ?_)
      exact tail w.2 (by rw [if_neg (by omega)])
  rintro ρ M' ⟨a, rfl, rfl⟩
  rw [range_len, ← el, List.take_length]
  refine ⟨trivial, ?_⟩
  walk_at "dl"
  have eL : M ++ MO.lst (refsD M.length R0.length) :: R0.map lineC ++ [MO.lst []] ++ [MO.dk []] = LS M R0 [] [] [] := by simp [LS, encT]
  have eB1 : (M ++ MO.lst (refsD M.length R0.length) :: R0.map lineC).length = M.length + 1 + R0.length := by
    simp
    omega
  have eB2 : (M ++ MO.lst (refsD M.length R0.length) :: R0.map lineC ++ [MO.lst []]).length = M.length + 1 + R0.length + 1 := by
    simp
    omega
  rw [eL, eB1, eB2]
  refine ⟨Nat.zero_le _, by omega, by omega, ?_⟩
  try dsimp only
  rw [Int.toNat_natCast]
  generalize hN : rulesOf (trained (setC cs ee c) n) = RR at q
  have hT : rulesOf (train n R0 []) = RR := by rw [← hN, ← hR]; rfl
  have fin : ∀ (rcs : Rcs) (tk : Tk) (G : Store), rcs.length = R0.length → RetOk M (.ref (M.length + 1 + R0.length)) (LS M rcs RR tk G) Q := by
    intro rcs tk G hl
    have e1 : LS M rcs RR tk G = M ++ (LS M rcs RR tk G).drop M.length := by unfold LS; simp
    have e2 : (LS M rcs RR tk G)[M.length + 1 + R0.length]? = some (.lst (RR.map pD)) := by rw [← hl]; exact LS.gAcc
    rw [e1] at e2 ⊢
    exact RetOk.lst (by omega) e2 (pD_bel _) q
  refine for_inv (fun i ρ M' => ∃ (rcs : Rcs) (tk : Tk) (acc : List Pair) (G : Store) (a b c1 d e f g h j : Option D), ρ = [some (.tup (cs.map wordD)), some (.int (ee : Nat)), some (.int c), some (.int (n : Nat)), some (.ref M.length), a, some (.ref (M.length + 1 + R0.length)), some (.ref (M.length + 1 + R0.length + 1)), b, c1, d, e, f, g, h, j] ∧
      M' = LS M rcs acc tk G ∧ acc ++ rulesOf (train (n - i) rcs tk) = RR ∧ rowsOk rcs ∧ rcs.length = R0.length ∧ acc.length ≤ i ∧ tk.length ≤ i)
    ⟨R0, [], [], [], _, _, _, _, _, _, _, _, _, rfl, rfl, by simpa using hT, ok0, rfl, Nat.le_refl _, Nat.le_refl _⟩ ?_ ?_
  · rintro i x ρ M' ex ⟨rcs, tk, acc, G, a, b, c1, d, e, f, g, h, j, rfl, rfl, et, rok, hrl, ha, htk⟩
    obtain ⟨rfl, hi⟩ := range_item ex
    refine ⟨trivial, fun go k => ?_⟩
    obtain ⟨j, ej⟩ : ∃ j, n - i = j + 1 := ⟨n - i - 1, by omega⟩
    rw [ej] at et
    have gL : ∀ G, (LS M rcs acc tk G)[M.length]? = some (.lst (refsD M.length R0.length)) := fun G => by rw [← hrl]; exact LS.lines
    have gA : ∀ G, (LS M rcs acc tk G)[M.length + 1 + R0.length]? = some (.lst (acc.map pD)) := fun G => by rw [← hrl]; exact LS.gAcc
    have gT : ∀ G, (LS M rcs acc tk G)[M.length + 1 + R0.length + 1]? = some (.dk (encT tk)) := fun G => by rw [← hrl]; exact LS.gTk
    have gT' : ∀ c', (LS M rcs acc tk G ++ [c'])[M.length + 1 + R0.length + 1]? = some (.dk (encT tk)) := fun c' => by rw [LS.app]; exact gT _
    have gL' : ∀ c', (LS M rcs acc tk G ++ [c'])[M.length]? = some (.lst (refsD M.length R0.length)) := fun c' => by rw [LS.app]; exact gL _
    walk_at "dl"
    generalize hX : (LS M rcs acc tk G).length = X
    have lg : ∀ c' : MO, (LS M rcs acc tk G ++ [c'])[X]? = some c' := fun c' => by rw [← hX]; exact last_get _ _
    have ls : ∀ c' o : MO, (LS M rcs acc tk G ++ [c']).set X o = LS M rcs acc tk G ++ [o] := fun c' o => by rw [← hX]; exact last_set _ _ _
    have e0 := viewL_cell (gL' (.dn []))
    dsimp only [viewL] at e0
    rw [e0]
    try dsimp only
    refine for_inv (fun i' ρ M' => ∃ a2 d2 e2 f2, ρ = [some (.tup (cs.map wordD)), some (.int (ee : Nat)), some (.int c), some (.int (n : Nat)), some (.ref M.length), a2, some (.ref (M.length + 1 + R0.length)), some (.ref (M.length + 1 + R0.length + 1)), some (.int (i : Nat)), some (.ref X), d2, e2, f2, g, h, _] ∧
      M' = LS M rcs acc tk G ++ [.dn (encF ((rcs.take i').foldl (addRow tk) []))]) ⟨_, _, _, _, rfl, rfl⟩ ?_ ?_
    · rintro i' x ρ M' ex' ⟨a2, d2, e2, f2, rfl, rfl⟩
      obtain ⟨rfl, hi'⟩ := refsD_get ex'
      refine ⟨viewL_cell (gL' _), fun go2 k2 => ?_⟩
      have er : rcs[i']? = some rcs[i'] := List.getElem?_eq_getElem (by omega)
      generalize rcs[i'] = rc at er
      have gl : ∀ c', (LS M rcs acc tk G ++ [c'])[M.length + 1 + i']? = some (.lst [rowD rc.1, .int rc.2]) := fun c' => by rw [LS.app]; exact LS.line er
      have rT := rok.2.1 rc (List.mem_of_getElem? er)
      have rok1 := rT.ok
      walk_at "dl"
      have e1 := viewS_cell (gl (.dn (encF ((rcs.take i').foldl (addRow tk) []))))
      dsimp only [viewS] at e1
      rw [e1]
      refine ⟨rfl, rfl, ?_⟩
      unfold rowD
      refine lenR_lst (subR_int ?_)
      try dsimp only
      rw [List.length_map]
      have hrl2 := rT.1
      refine ⟨by omega, by omega, ?_⟩
      have en : (((rc.1.length : Nat) : Int) - 1).toNat = (pairsOf rc.1).length := by rw [pairs_len]; omega
      rw [en]
      have L0 := rows_len tk (rcs.take i') [] fun y hy => (rok.2.1 y (List.mem_of_mem_take hy)).1
      rw [List.length_take, List.length_nil] at L0
      have L0' := rok.1
      refine for_inv (fun jj ρ M' => ∃ a3 f3, ρ = [some (.tup (cs.map wordD)), some (.int (ee : Nat)), some (.int c), some (.int (n : Nat)), some (.ref M.length), a3, some (.ref (M.length + 1 + R0.length)), some (.ref (M.length + 1 + R0.length + 1)), some (.int (i : Nat)), some (.ref X), some (rowD rc.1), some (.int rc.2), f3, g, h, _] ∧
        M' = LS M rcs acc tk G ++ [.dn (encF (((pairsOf rc.1).take jj).foldl (bump tk rc.2) ((rcs.take i').foldl (addRow tk) [])))]) ⟨_, _, rfl, rfl⟩ ?_ ?_
      · rintro jj x ρ M' ex3 ⟨a3, f3, rfl, rfl⟩
        obtain ⟨rfl, hj⟩ := range_item ex3
        have hj' : jj + 1 < rc.1.length := by rw [pairs_len] at hj; omega
        have x0 : rc.1[jj]? = some rc.1[jj] := List.getElem?_eq_getElem (by omega)
        have x1 : rc.1[jj + 1]? = some rc.1[jj + 1] := List.getElem?_eq_getElem (by omega)
        generalize rc.1[jj] = p1 at x0
        generalize rc.1[jj + 1] = p2 at x1
        have epp := pairs_at x0 x1
        have hp : p1.length + p2.length < 1000 := rok1.2 _ (List.mem_of_getElem? epp)
        refine ⟨trivial, fun go3 k3 => ?_⟩
        have et3 : (pairsOf rc.1).take (jj + 1) = (pairsOf rc.1).take jj ++ [(p1, p2)] := by rw [List.take_add_one, epp]; rfl
        have L1 := bumps_len tk rc.2 ((pairsOf rc.1).take jj) ((rcs.take i').foldl (addRow tk) [])
        rw [List.length_take] at L1
        have L2 := pairsOf_len rc.1
        have j1 : ((jj : Nat) : Int) + 1 = ((jj + 1 : Nat) : Int) := rfl
        have ix0 : ∀ (M : Store) (K : DK), K (.str p1) M → ixR (rowD rc.1) (.int (jj : Nat)) M K := fun M K k => ixR_lst x0 k
        have ix1 : ∀ (M : Store) (K : DK), K (.str p2) M → ixR (rowD rc.1) (.int ((jj + 1 : Nat) : Int)) M K := fun M K k => ixR_lst x1 k
        walk_at "dl"
        refine ix0 _ _ (addR_int ?_)
        rw [j1]
        refine ix1 _ _ (addR_str (small' (by omega)) ?_)
        refine notInR_at (dGet_dk (k := Sum.inr (p1 ++ p2)) (gT' _) rfl) ?_
        dsimp only
        rw [encT_get, Option.isSome_map]
        refine ite_nbool (fun h => ?_) (fun h => ?_)
        · refine ix0 _ _ (addR_int ?_)
          rw [j1]
          refine ix1 _ _ ⟨(by show 2 ≤ sizeLine; decide), ?_⟩
          refine ⟨tyM_dn (lg _), ?_⟩
          refine getOr_at (dGet_dn (k := kP (p1, p2)) (lg _) (tkey_P _ _) (depth_P (p1, p2))) ?_
          rw [encF_get]
          have eg : ∀ (o : Option Int), (o.map D.int).getD (.int 0) = .int (o.getD 0) := fun o => by cases o <;> rfl
          rw [eg]
          refine addR_int ?_
          try dsimp only
          refine setR_dn (k := kP (p1, p2)) (lg _) (tkey_P _ _) (depth_P (p1, p2)) (by unfold encF; rw [List.length_map]; exact small (by omega)) ?_
          rw [ls, encF_put]
          refine .inl (k3 _ _ ⟨_, _, rfl, ?_⟩)
          rw [et3, List.foldl_append]
          show LS M rcs acc tk G ++ [MO.dn _] = LS M rcs acc tk G ++ [MO.dn (encF (bump tk rc.2 _ (p1, p2)))]
          unfold bump
          rw [if_neg (by rw [h]; exact Bool.false_ne_true)]
        · refine .inl (k3 _ _ ⟨_, _, rfl, ?_⟩)
          rw [et3, List.foldl_append]
          show _ = LS M rcs acc tk G ++ [MO.dn (encF (bump tk rc.2 _ (p1, p2)))]
          unfold bump
          rw [if_pos h]
      · rintro ρ M' ⟨a3, f3, rfl, rfl⟩
        refine ⟨trivial, .inl (k2 _ _ ⟨_, _, _, _, rfl, ?_⟩)⟩
        have et3 : rcs.take (i' + 1) = rcs.take i' ++ [rc] := by rw [List.take_add_one, er]; rfl
        rw [range_len, List.take_length, et3, List.foldl_append]
        rfl
    rintro ρ M' ⟨a2, d2, e2, f2, rfl, rfl⟩
    refine ⟨viewL_cell (gL' _), ?_⟩
    have e3 : (rcs.take (refsD M.length R0.length).length).foldl (addRow tk) [] = countF tk rcs := by rw [refsD_len, ← hrl, List.take_length]; rfl
    rw [e3]
    have hF := countF_len (tk := tk) rok.1 rok.2.1
    have ech : chosen (countF tk rcs) = (pickF (countF tk rcs) (sortP ((countF tk rcs).map (·.1)))).1 := rfl
    have hch : ∀ p, chosen (countF tk rcs) = some p → p.1.length + p.2.length < 1000 ∧ OkP p := fun p ec => by
      obtain ⟨x0, hx0, hpx⟩ := chosen_row ec
      exact ⟨chosen_len ec rok.2.1, pairs_ok (rok.2.2 x0 hx0) hpx⟩
    unfold train at et
    generalize countF tk rcs = f at hF et ech hch
    walk_at "dl"
    refine sorted_ref (lg _) (small' (by omega)) ?_
    try dsimp only
    refine for_inv (fun i' ρ M' => PickI f (pickF f ((sortP (f.map (·.1))).take i')) ∧ ∃ f3, ρ = [some (.tup (cs.map wordD)), some (.int (ee : Nat)), some (.int c), some (.int (n : Nat)), some (.ref M.length), a2, some (.ref (M.length + 1 + R0.length)), some (.ref (M.length + 1 + R0.length + 1)), some (.int (i : Nat)), some (.ref X), d2, e2, f3, some (pairD (pickF f ((sortP (f.map (·.1))).take i')).1), h, _] ∧
      M' = LS M rcs acc tk G ++ [.dn (encF f)]) ⟨rfl, _, rfl, rfl⟩ ?_ ?_
    · rintro i' x ρ M' ex' ⟨hpi, f3, rfl, rfl⟩
      rw [List.getElem?_map] at ex'
      obtain ⟨k', ek, rfl⟩ := Option.map_eq_some_iff.mp ex'
      refine ⟨by rfl, fun go4 k4 => ?_⟩
      have et4 : (sortP (f.map (·.1))).take (i' + 1) = (sortP (f.map (·.1))).take i' ++ [k'] := by rw [List.take_add_one, ek]; rfl
      have est : pickF f ((sortP (f.map (·.1))).take (i' + 1)) = pickStep f (pickF f ((sortP (f.map (·.1))).take i')) k' := by
        rw [et4]
        unfold pickF
        rw [List.foldl_append]
        rfl
      obtain ⟨v, ev⟩ := aGet_key (sortP_mem.mp (List.mem_of_getElem? ek))
      have hpi' := PickI.step hpi ev
      rw [← est] at hpi'
      have yes : (pickF f ((sortP (f.map (·.1))).take i')).2 < v → pairD (pickF f ((sortP (f.map (·.1))).take (i' + 1))).1 = pD k' := fun hlt => by
        rw [est]
        unfold pickStep
        rw [ev, if_pos (show _ < (some v).getD 0 from hlt)]
        rfl
      have no : ¬ (pickF f ((sortP (f.map (·.1))).take i')).2 < v → (pickF f ((sortP (f.map (·.1))).take (i' + 1))).1 = (pickF f ((sortP (f.map (·.1))).take i')).1 := fun hlt => by
        rw [est]
        unfold pickStep
        rw [ev, if_neg (show ¬ _ < (some v).getD 0 from hlt)]
      generalize pickF f ((sortP (f.map (·.1))).take i') = bm at hpi yes no
      walk_at "dl"
      refine found_ref (lg _) ev (gtR_int ?_)
      try dsimp only
      have skip : ¬ bm.2 < v → TurnOk (LS M rcs acc tk G ++ [.dn (encF f)]) [some (.tup (cs.map wordD)), some (.int (ee : Nat)), some (.int c), some (.int (n : Nat)), some (.ref M.length), a2, some (.ref (M.length + 1 + R0.length)), some (.ref (M.length + 1 + R0.length + 1)), some (.int (i : Nat)), some (.ref X), d2, e2, some (pD k'), some (pairD bm.1), h, _] (LS M rcs acc tk G ++ [.dn (encF f)]) go4 := fun hlt => .inl (k4 _ _ ⟨hpi', _, by rw [no hlt], rfl⟩)
      have take : bm.2 < v → TurnOk (LS M rcs acc tk G ++ [.dn (encF f)]) [some (.tup (cs.map wordD)), some (.int (ee : Nat)), some (.int c), some (.int (n : Nat)), some (.ref M.length), a2, some (.ref (M.length + 1 + R0.length)), some (.ref (M.length + 1 + R0.length + 1)), some (.int (i : Nat)), some (.ref X), d2, e2, some (pD k'), some (pD k'), h, _] (LS M rcs acc tk G ++ [.dn (encF f)]) go4 := fun hlt => .inl (k4 _ _ ⟨hpi', _, by rw [yes hlt], rfl⟩)
      obtain ⟨b0, m0⟩ := bm
      cases b0 with
      | none =>
        have hm0 : m0 = 0 := hpi
        subst hm0
        refine ite_dec (fun hv => ?_) (fun hv => ?_)
        · refine isNR_q (ite_t (ite_t (take hv)))
        · exact ite_f (skip hv)
      | some p0 =>
        obtain ⟨h1, h2⟩ := hpi
        have h2 : 0 < m0 := h2
        refine ite_dec (fun hv => ?_) (fun hv => ?_)
        · refine isNR_q (ite_f (found_ref (lg _) ev (found_ref (lg _) h1 (gtR_int ?_))))
          try dsimp only
          exact ite_dec (fun hlt => take hlt) (fun hlt => skip hlt)
        · exact ite_f (skip (by show ¬ m0 < v; omega))
    rintro ρ M' ⟨hpi, f3, rfl, rfl⟩
    refine ⟨by rfl, ?_⟩
    rw [List.length_map, List.take_length, ← ech]
    walk_at "dl"
    refine isNR_q ?_
    try dsimp only
    cases ec : chosen f with
    | none =>
      rw [ec] at et
      refine (if_pos (show D.isN (pairD none) = true from rfl)).symm ▸ ?_
      have ea : acc = RR := by rw [← et]; simp [rulesOf]
      subst ea
      rw [LS.app]
      exact fin rcs tk _ hrl
    | some p =>
      rw [ec] at et
      refine (if_neg (show ¬ D.isN (pairD (some p)) = true from Bool.false_ne_true)).symm ▸ ?_
      obtain ⟨hp, o1, o2⟩ := hch p ec
      rw [LS.app, show pairD (some p) = pD p from rfl]
      refine ⟨tyM_lst (gA _), ?_⟩
      refine append_cell (gA _) (by rw [List.length_map]; exact small (by omega)) ?_
      have sA : ∀ G, (LS M rcs acc tk G).set (M.length + 1 + R0.length) (.lst (acc.map pD ++ [pD p])) = LS M rcs (acc ++ [p]) tk G := fun G => by
        have := LS.setAcc (M := M) (rcs := rcs) (acc := acc) (tk := tk) (G := G) (acc ++ [p])
        rw [← hrl, ← this, List.map_append]
        rfl
      have sT : ∀ G, (LS M rcs (acc ++ [p]) tk G).set (M.length + 1 + R0.length + 1) (.dk (encT (aPut tk (p.1 ++ p.2) true))) = LS M rcs (acc ++ [p]) (aPut tk (p.1 ++ p.2) true) G := fun G => by
        rw [← hrl]
        exact LS.setTk _
      have gT2 : ∀ G, (LS M rcs (acc ++ [p]) tk G)[M.length + 1 + R0.length + 1]? = some (.dk (encT tk)) := fun G => by rw [← hrl]; exact LS.gTk
      rw [sA]
      refine ixR_tup (n := 0) rfl (ixR_tup (n := 1) rfl ?_)
      refine addR_str (small' (by omega)) ?_
      try dsimp only
      refine setR_dk (k := Sum.inr (p.1 ++ p.2)) (kvs := encT tk) (gT2 _) rfl ?_ ?_
      · unfold encT
        rw [List.length_map]
        exact small (by omega)
      rw [encT_put, sT]
      have hsl : (stepRows p rcs).length = rcs.length := by unfold stepRows; rw [List.length_map]
      have gL3 : ∀ i' tk' G, (LS M ((stepRows p rcs).take i' ++ rcs.drop i') (acc ++ [p]) tk' G)[M.length]? = some (.lst (refsD M.length R0.length)) := fun i' tk' G => by
        have := LS.lines (M := M) (rcs := (stepRows p rcs).take i' ++ rcs.drop i') (acc := acc ++ [p]) (tk := tk') (G := G)
        rw [mix_len hsl, hrl] at this
        exact this
      have e0 := viewL_cell (gL3 0 (aPut tk (p.1 ++ p.2) true) (G ++ [.dn (encF f)]))
      dsimp only [viewL] at e0
      rw [List.take_zero, List.drop_zero, List.nil_append] at e0
      rw [e0]
      try dsimp only
      refine for_inv (fun i' ρ M' => ∃ f4, ρ = [some (.tup (cs.map wordD)), some (.int (ee : Nat)), some (.int c), some (.int (n : Nat)), some (.ref M.length), a2, some (.ref (M.length + 1 + R0.length)), some (.ref (M.length + 1 + R0.length + 1)), some (.int (i : Nat)), some (.ref X), d2, e2, f3, some (pD p), f4, _] ∧
        M' = LS M ((stepRows p rcs).take i' ++ rcs.drop i') (acc ++ [p]) (aPut tk (p.1 ++ p.2) true) (G ++ [.dn (encF f)])) ⟨_, rfl, by rw [List.take_zero, List.drop_zero, List.nil_append]⟩ ?_ ?_
      · rintro i' x ρ M' ex' ⟨f4, rfl, rfl⟩
        obtain ⟨rfl, hi'⟩ := refsD_get ex'
        refine ⟨viewL_cell (gL3 _ _ _), fun go2 k2 => ?_⟩
        have er : rcs[i']? = some rcs[i'] := List.getElem?_eq_getElem (by omega)
        generalize rcs[i'] = rc at er
        have hrc := List.mem_of_getElem? er
        have es : (stepRows p rcs)[i']? = some (joinedOnce p.1 p.2 rc.1, rc.2) := by unfold stepRows; rw [List.getElem?_map, er]; rfl
        have gl : (LS M ((stepRows p rcs).take i' ++ rcs.drop i') (acc ++ [p]) (aPut tk (p.1 ++ p.2) true) (G ++ [.dn (encF f)]))[M.length + 1 + i']? = some (.lst [rowD rc.1, .int rc.2]) := LS.line (by rw [mix_get hsl (by omega)]; exact er)
        walk_at "dl"
        refine ixR_cell (n := 0) gl rfl ?_
        refine ⟨rc.1, p, rfl, (rok.2.1 rc hrc).ok, rok.2.2 rc hrc, o1, o2, ?_⟩
        refine setR_lst (j := 0) gl (by simp) ?_
        refine .inl (k2 _ _ ⟨_, rfl, ?_⟩)
        rw [← mix_set hsl es]
        have hll : i' < ((stepRows p rcs).take i' ++ rcs.drop i').length := by
          rw [mix_len hsl]
          omega
        exact LS.setLine (y := (joinedOnce p.1 p.2 rc.1, rc.2)) hll
      · rintro ρ M' ⟨f4, rfl, rfl⟩
        rw [refsD_len]
        refine ⟨viewL_cell (gL3 _ _ _), ?_⟩
        refine .inl (k _ _ ⟨stepRows p rcs, aPut tk (p.1 ++ p.2) true, acc ++ [p], G ++ [.dn (encF f)], _, _, _, _, _, _, _, _, _, rfl, ?_, ?_, rok.step o1 o2, hsl.trans hrl, ?_, ?_⟩)
        · rw [← hrl, ← hsl, List.take_length, List.drop_eq_nil_of_le (by omega), List.append_nil]
        · have : n - (i + 1) = j := by omega
          rw [this, ← et, List.append_assoc]
          rfl
        · rw [List.length_append, List.length_singleton]
          omega
        · have := aPut_len tk (p.1 ++ p.2) true
          omega
  · rintro ρ M' ⟨rcs, tk, acc, G, a, b, c1, d, e, f, g, h, j, rfl, rfl, et, rok, hrl, ha, htk⟩
    rw [range_len, Nat.sub_self] at et
    unfold train at et
    have ea : acc = RR := by rw [← et]; simp [rulesOf]
    subst ea
    refine ⟨trivial, ?_⟩
    walk_at "dl"
    exact fin rcs tk G hrl
end K

set_option Elab.async false
set_option linter.all false
set_option maxRecDepth 100000
set_option maxHeartbeats 2000000
namespace K
open PySem L2 DL
open PyProof.Rows hiding St signs inR
local macro_rules | `(tactic| walk_at "dl") => `(tactic| dsimp only [dSeq, dAsg, dgName, dVar, dC, dOp, dUn, dCB, dCons, dNil, dTup, dLst, dLstM, dNewK, dNewN, dRet, dRetN, dDrop, dIfS, dNext, dNever, dB, dAnd, dOr, dNot, dAndV, dOrV, dNotV, dIf, dMeth, dSl, dPart, dNoPart, dFor, dIter, dSetF, dFld, dMake0, dMethO, dKeysN, dEnumT, dRange1, dRange2, dZip, dEnum, dLc, dLcM, dDc, dSortSet, dCall, dgSeq, dgSub, dgCons, dgNil, dPar, dAug, dBreak, dCont, dYes, endsD, slot, List.set_cons_zero, List.set_cons_succ, itemsD, listR, listRM, tupleR, viewL, viewS, DL.intOf, dwipe, setAll, Shape.bind])
/-! data that is compared -/
theorem layAll : ∀ {l : List PyData}, (∀ d ∈ l, d.canLay0 = true) → PyData.canLayAll0 l = true
  | [], _ => rfl
  | d :: r, h => by
    show (d.canLay0 && PyData.canLayAll0 r) = true
    rw [h d (List.mem_cons_self ..), layAll fun x hx => h x (List.mem_cons_of_mem _ hx)]
    rfl
theorem depAll {n : Nat} : ∀ {l : List PyData}, (∀ d ∈ l, d.depth ≤ n) → PyData.depthAll l ≤ n
  | [], _ => Nat.zero_le _
  | d :: r, h => by
    show max d.depth (PyData.depthAll r) ≤ n
    exact Nat.max_le.mpr ⟨h d (List.mem_cons_self ..), depAll fun x hx => h x (List.mem_cons_of_mem _ hx)⟩
theorem shaped_of {d : PyData} (h1 : d.canLay0 = true) (h2 : d.depth ≤ 64) : SeqAt.shaped d = true := by
  unfold SeqAt.shaped
  rw [h1, decide_eq_true h2]
  rfl
theorem lay_P {p : Pair} (h : OkP p) : (encP p).canLay0 = true := by
  have := h.1
  have := h.2
  unfold encP
  simp [PyData.canLay0, PyData.canLayAll0, *]
theorem shaped_pairs {rs : List Pair} (h : ∀ p ∈ rs, OkP p) : SeqAt.shaped (.list (rs.map encP)) = true := by
  refine shaped_of (layAll fun d hd => ?_) ?_
  · obtain ⟨p, hp, rfl⟩ := List.mem_map.mp hd
    exact lay_P (h p hp)
  · have : PyData.depthAll (rs.map encP) ≤ 60 := depAll fun d hd => by
      obtain ⟨p, hp, rfl⟩ := List.mem_map.mp hd
      exact of_decide_eq_true rfl
    show PyData.depthAll (rs.map encP) + 1 ≤ 64
    omega
theorem py_pairs (M : Store) : ∀ rs : List Pair, PyOfs M (rs.map pD) (rs.map encP)
  | [] => .nil
  | p :: rs => .cons (py_P M p) (py_pairs M rs)
theorem eqv_pairs : ∀ rs ss : List Pair, PyData.eqvAll (rs.map encP) (ss.map encP) = decide (rs = ss)
  | [], [] => rfl
  | [], _ :: _ => rfl
  | _ :: _, [] => rfl
  | p :: rs, q :: ss => by
    show (PyData.eqv (encP p) (encP q) && PyData.eqvAll (rs.map encP) (ss.map encP)) = _
    rw [eqv_P, eqv_pairs rs ss]
    by_cases h1 : p = q
    · by_cases h2 : rs = ss <;> simp [h1, h2]
    · simp [h1]
theorem neR_pairs {rs ss : List Pair} {M : Store} {Q : DK} (h1 : ∀ p ∈ rs, OkP p) (h2 : ∀ p ∈ ss, OkP p) (q : Q (.bl (!decide (rs = ss))) M) : neR (.lst (rs.map pD)) (.lst (ss.map pD)) M Q := by
  refine ⟨.list (rs.map encP), .list (ss.map encP), .lst (py_pairs M rs), .lst (py_pairs M ss), shaped_pairs h1, shaped_pairs h2, ?_⟩
  have e : PyData.eqv (.list (rs.map encP)) (.list (ss.map encP)) = decide (rs = ss) := eqv_pairs rs ss
  rw [e]
  exact q
theorem eqR_pairs {rs ss : List Pair} {M : Store} {Q : DK} (h1 : ∀ p ∈ rs, OkP p) (h2 : ∀ p ∈ ss, OkP p) (q : Q (.bl (decide (rs = ss))) M) : eqR (.lst (rs.map pD)) (.lst (ss.map pD)) M Q := by
  refine ⟨.list (rs.map encP), .list (ss.map encP), .lst (py_pairs M rs), .lst (py_pairs M ss), shaped_pairs h1, shaped_pairs h2, ?_⟩
  have e : PyData.eqv (.list (rs.map encP)) (.list (ss.map encP)) = decide (rs = ss) := eqv_pairs rs ss
  rw [e]
  exact q
theorem rules_ok {p : Pair} : ∀ {n : Nat} {rcs : Rcs} {tk : Tk}, rowsOk rcs → p ∈ rulesOf (train n rcs tk) → OkP p
  | 0, _, _, _, h => by simp [train, rulesOf] at h
  | n + 1, rcs, tk, ok, h => by
    rw [rules_step] at h
    cases ec : chosen (countF tk rcs) with
    | none =>
      rw [ec] at h
      cases h
    | some q =>
      rw [ec] at h
      obtain ⟨x0, hx0, hpx⟩ := chosen_row ec
      have oq := pairs_ok (ok.2.2 x0 hx0) hpx
      rcases List.mem_cons.mp h with z | z
      · rw [z]
        exact oq
      · exact rules_ok (ok.step oq.1 oq.2) z
theorem trained_ok {p : Pair} {n : Nat} {cs : List (Str × Int)} (h : CorpS cs) (hp : p ∈ rulesOf (trained cs n)) : OkP p := rules_ok (rows0_all h) hp
/-! the joins, compared with themselves -/
def encR (name : Str) (p : Pair) : PyData := .tuple [.str p.1, .str p.2, .str name]
def encJ (z name : Str) (rs : List Pair) : PyData := .tuple [.str "joins", .str z, .str name, .tuple (rs.map (encR name))]
theorem py_rules (M : Store) (name : Str) : ∀ rs : List Pair, PyOfs M (rs.map (ruleD name)) (rs.map (encR name))
  | [] => .nil
  | p :: rs => .cons (.tup (.cons (.str _) (.cons (.str _) (.cons (.str _) .nil)))) (py_rules M name rs)
theorem py_joins (M : Store) (z name : Str) (rs : List Pair) : PyOf M (joinsD z name rs) (encJ z name rs) := .tup (.cons (.str _) (.cons (.str _) (.cons (.str _) (.cons (.tup (py_rules M name rs)) .nil))))
theorem lay_joins {z name : Str} {rs : List Pair} (hz : PyData.strOk z = true) (hn : PyData.strOk name = true) (h : ∀ p ∈ rs, OkP p) : (encJ z name rs).canLay0 = true := by
  refine layAll fun d hd => ?_
  have j : PyData.strOk ("joins" : Str) = true := by decide +kernel
  simp only [List.mem_cons, List.not_mem_nil, or_false] at hd
  rcases hd with rfl | rfl | rfl | rfl
  · exact j
  · exact hz
  · exact hn
  · refine layAll fun d hd => ?_
    obtain ⟨p, hp, rfl⟩ := List.mem_map.mp hd
    have := (h p hp).1
    have := (h p hp).2
    unfold encR
    simp [PyData.canLay0, PyData.canLayAll0, *]
theorem dep_joins (z name : Str) (rs : List Pair) : (encJ z name rs).depth ≤ 64 := by
  have h1 : PyData.depthAll (rs.map (encR name)) ≤ 50 := depAll fun d hd => by
    obtain ⟨p, hp, rfl⟩ := List.mem_map.mp hd
    exact of_decide_eq_true rfl
  have h2 : (PyData.tuple (rs.map (encR name))).depth ≤ 51 := by
    show PyData.depthAll (rs.map (encR name)) + 1 ≤ 51
    omega
  have h3 : PyData.depthAll [.str "joins", .str z, .str name, .tuple (rs.map (encR name))] ≤ 51 := depAll fun d hd => by
    simp only [List.mem_cons, List.not_mem_nil, or_false] at hd
    rcases hd with rfl | rfl | rfl | rfl
    · exact of_decide_eq_true rfl
    · exact of_decide_eq_true rfl
    · exact of_decide_eq_true rfl
    · exact h2
  show PyData.depthAll [.str "joins", .str z, .str name, .tuple (rs.map (encR name))] + 1 ≤ 64
  omega
theorem eqR_joins {z name : Str} {rs : List Pair} {M : Store} {Q : DK} (hz : PyData.strOk z = true) (hn : PyData.strOk name = true) (h : ∀ p ∈ rs, OkP p) (q : Q (.bl true) M) : eqR (joinsD z name rs) (joinsD z name rs) M Q := by
  have hl := lay_joins hz hn h
  refine ⟨encJ z name rs, encJ z name rs, py_joins M z name rs, py_joins M z name rs, shaped_of hl (dep_joins z name rs), shaped_of hl (dep_joins z name rs), ?_⟩
  rw [PySem.SeqAt.eqv_refl _ hl]
  exact q
theorem isi_at {x : D} {t c : String} {b : Bool} {M : Store} {Q : DK} (hc : c ∈ plainTy) (e : tyI M x = some t) (hb : isTy t c = b) (q : Q (.bl b) M) : isiR [x, .ty c] M Q := by
  refine ⟨hc, ?_⟩
  rw [e]
  dsimp only
  rw [hb]
  exact q
def sp_u_law_number : DSp := fun ds M Q => ∃ i : Int, ds = [.int i] ∧ 0 ≤ i ∧ i ≤ 100000000000000 ∧ Q (.bl true) M
theorem dat_u_law_number (ds : List D) (M : Store) (Q : DK) (h : sp_u_law_number ds M Q) : t_u_law_number (endsD M Q) (startD 1 ds) M := by
  obtain ⟨i, rfl, h0, h1, q⟩ := h
  show t_u_law_number (endsD M Q) [some (.int i)] M
  unfold t_u_law_number
  walk_at "dl"
  refine isi_at (by decide) rfl (b := true) (by decide) ?_
  refine isi_at (by decide) rfl (b := false) (by decide) ?_
  dsimp only [dChain, dC, dVar, dOp, slot]
  refine leR_int ?_
  rw [decide_eq_true h0]
  try dsimp only
  refine powR_int (by unfold CPow; decide) (leR_int ?_)
  have e10 : (10 : Int) ^ (14 : Int).toNat = 100000000000000 := by decide
  rw [e10, decide_eq_true h1]
  exact .inl q
/-! train_joins with another count -/
def sp_u_law_trains : DSp := fun ds M Q => ∃ (z : Str) (cs : List (Str × Int)) (e n : Nat) (c : Int), ds = [.str z, .tup (cs.map wordD), .int e, .int c, .int n, .lst ((rulesOf (trained (setC cs e c) n)).map pD)] ∧ CorpS cs ∧ e < cs.length ∧ PyData.strOk z = true ∧ n < 100000 ∧ Q (.bl true) M
theorem cut_lo (xs : List D) (n : Nat) (h : n ≤ xs.length) : DL.cutD xs (some (n : Nat)) none = xs.drop n := by
  unfold DL.cutD
  have h1 : HT.sIx xs.length 0 (some (n : Nat)) = n := by
    simp [HT.sIx]
    rw [if_neg (by omega), Nat.min_eq_left h]
  have h2 : HT.sIx xs.length xs.length none = xs.length := by simp [HT.sIx]
  rw [h1, h2]
  exact List.take_of_length_le (by rw [List.length_drop]; exact Nat.le_refl _)
theorem cut_hi (xs : List D) (n : Nat) (h : n ≤ xs.length) : DL.cutD xs none (some (n : Nat)) = xs.take n := by
  unfold DL.cutD
  have h1 : HT.sIx xs.length 0 none = 0 := by simp [HT.sIx]
  have h2 : HT.sIx xs.length xs.length (some (n : Nat)) = n := by
    simp [HT.sIx]
    rw [if_neg (by omega), Nat.min_eq_left h]
  rw [h1, h2]
  simp
theorem setC_parts {cs : List (Str × Int)} {e : Nat} {c : Int} {w : Str × Int} (h : cs[e]? = some w) : (cs.map wordD).take e ++ [wordD (w.1, c)] ++ (cs.map wordD).drop (e + 1) = (setC cs e c).map wordD := by
  have he := (List.getElem?_eq_some_iff.mp h).1
  refine List.ext_getElem? fun i => ?_
  unfold setC
  rw [List.getElem?_map, List.getElem?_mapIdx, List.append_assoc]
  by_cases h1 : i < e
  · rw [List.getElem?_append_left (by rw [List.length_take, List.length_map]; omega), List.getElem?_take, if_pos h1, List.getElem?_map]
    rw [List.getElem?_eq_getElem (show i < cs.length by omega)]
    simp [show i ≠ e by omega]
  · rw [List.getElem?_append_right (by rw [List.length_take, List.length_map]; omega), List.length_take, List.length_map, Nat.min_eq_left (by omega)]
    by_cases h2 : i = e
    · subst h2
      rw [Nat.sub_self, h]
      simp
    · obtain ⟨k, hk⟩ : ∃ k, i - e = k + 1 := ⟨i - e - 1, by omega⟩
      rw [hk, List.singleton_append, List.getElem?_cons_succ, List.getElem?_drop, List.getElem?_map, show e + 1 + k = i by omega]
      cases cs[i]? with
      | none => rfl
      | some x => simp [h2]
theorem dat_u_law_trains (ds : List D) (M : Store) (Q : DK) (h : sp_u_law_trains ds M Q) : t_u_law_trains sp_train_joins (endsD M Q) (startD 11 ds) M := by
  obtain ⟨z, cs, e, n, c, rfl, ok, he, hz, hn, q⟩ := h
  have hok := setC_S (e := e) (c := c) ok
  have hR := fun p hp => trained_ok (p := p) (n := n) hok hp
  have hRl := Nat.le_trans (rulesOf_len _) (trained_len (setC cs e c) n)
  generalize hRR : rulesOf (trained (setC cs e c) n) = RR at hR hRl
  show t_u_law_trains _ (endsD M Q) [some (.str z), some (.tup (cs.map wordD)), some (.int (e : Nat)), some (.int c), some (.int (n : Nat)), some (.lst (RR.map pD)), none, none, none, none, none] M
  unfold t_u_law_trains
  walk_at "dl"
  refine powR_int (by unfold CPow; decide) (gtR_int ?_)
  try dsimp only
  refine ite_dec (fun h => .inl q) (fun h => ?_)
  have ew : cs[e]? = some cs[e] := List.getElem?_eq_getElem he
  generalize cs[e] = w at ew
  have hcl := ok.1.1
  refine sliceR_tup ?_
  rw [cut_hi _ _ (by rw [List.length_map]; omega)]
  try dsimp only
  refine ixR_tupm ew (ixR_tup (n := 0) rfl ?_)
  try dsimp only
  refine ⟨(by show 2 ≤ sizeLine; decide), (by show 1 ≤ sizeLine; decide), ?_⟩
  refine ⟨by rw [List.length_take, List.length_map]; exact small' (show _ + 1 ≤ 16000000 by omega), ?_⟩
  refine addR_int (sliceR_tup ?_)
  have e1 : ((e : Nat) : Int) + 1 = ((e + 1 : Nat) : Int) := rfl
  rw [e1, cut_lo _ _ (by rw [List.length_map]; omega)]
  refine ⟨by rw [List.length_append, List.length_take, List.length_drop, List.length_map]; exact small' (show _ + 1 + _ ≤ 16000000 by omega), ?_⟩
  rw [show ((cs.map wordD).take e ++ [D.tup [.str w.1, .int c]] ++ (cs.map wordD).drop (e + 1)) = (setC cs e c).map wordD from setC_parts (c := c) ew]
  try dsimp only
  refine lc_map (sh := .many [9, 10]) (by rfl) pD (ruleD "Q") RR (small' (by omega)) (fun x hx => ⟨_, rfl, fun K k => ⟨(by show 3 ≤ sizeLine; decide), k⟩⟩) ?_
  refine ⟨(by show 4 ≤ sizeLine; decide), ?_⟩
  refine ⟨z, "Q", setC cs e c, n, rfl, hok.1, hn, ?_⟩
  rw [hRR]
  refine isi_at (by decide) (show tyI M (joinsD z "Q" RR) = some "tuple" from rfl) (b := true) (by decide) ?_
  try dsimp only
  exact eqR_joins hz (by decide +kernel) hR (.inl q)
end K

set_option Elab.async false
set_option linter.all false
set_option maxRecDepth 100000
set_option maxHeartbeats 2000000
namespace K
open PySem L2 DL
open PyProof.Rows hiding St signs inR
local macro_rules | `(tactic| walk_at "dl") => `(tactic| dsimp only [dSeq, dAsg, dgName, dVar, dC, dOp, dUn, dCB, dCons, dNil, dTup, dLst, dLstM, dNewK, dNewN, dRet, dRetN, dDrop, dIfS, dNext, dNever, dB, dAnd, dOr, dNot, dAndV, dOrV, dNotV, dIf, dMeth, dSl, dPart, dNoPart, dFor, dIter, dSetF, dFld, dMake0, dMethO, dKeysN, dEnumT, dRange1, dRange2, dZip, dEnum, dLc, dLcM, dDc, dSortSet, dCall, dgSeq, dgSub, dgCons, dgNil, dPar, dAug, dBreak, dCont, dYes, endsD, slot, List.set_cons_zero, List.set_cons_succ, itemsD, listR, listRM, tupleR, viewL, viewS, DL.intOf, dwipe, setAll, Shape.bind])
/-! the bound of the margin's end -/
def HiLe (B : Int) (m : Mg) : Prop := ∀ h, m.2 = some h → h ≤ B
theorem narrow_hi {B s b : Int} {m : Mg} (h : HiLe B m) (hb : b ≤ B) (hB : 0 ≤ B) : HiLe B (narrowM m s b) := by
  unfold narrowM
  intro x ex
  dsimp only at ex
  by_cases hs : s < 0
  · rw [if_pos hs] at ex
    have h1 : b.fdiv (-s) ≤ B := by
      rw [Int.fdiv_eq_ediv_of_nonneg _ (by omega)]
      refine Int.ediv_le_of_le_mul (by omega) ?_
      have : B * 1 ≤ B * (-s) := Int.mul_le_mul_of_nonneg_left (by omega) hB
      omega
    cases em : m.2 with
    | none =>
      rw [em] at ex
      cases ex
      exact h1
    | some y =>
      rw [em] at ex
      dsimp only at ex
      split at ex
      · cases ex
        exact h1
      · cases ex
        exact h _ em
  · rw [if_neg hs] at ex
    exact h x ex
theorem step1_hi {B : Int} {p : Option Pair} {sl ba : F} {m : Mg} {o : Pair} (hB : 0 ≤ B) (hba : ∀ k, 0 ≤ valF ba k ∧ valF ba k ≤ B) (h : HiLe B m) : HiLe B (stepM1 p sl ba m o) := by
  unfold stepM1
  have h1 := hba o
  cases p with
  | none => exact narrow_hi h (by omega) hB
  | some q =>
    have h2 := hba q
    have hg : 0 ≤ gapP o q := by unfold gapP; split <;> omega
    dsimp only
    split
    · exact narrow_hi h (by omega) hB
    · exact narrow_hi h (by omega) hB
theorem steps_hi {B : Int} {p : Option Pair} {sl ba : F} (hB : 0 ≤ B) (hba : ∀ k, 0 ≤ valF ba k ∧ valF ba k ≤ B) : ∀ (ks : List Pair) (m : Mg), HiLe B m → HiLe B (ks.foldl (stepM1 p sl ba) m)
  | [], m, h => h
  | o :: ks, m, h => steps_hi hB hba ks _ (step1_hi hB hba h)
def LinB (r : Lin) : Prop := r.length ≤ 101 ∧ ∀ x ∈ r, 0 ≤ x.2.2 ∧ x.2.2 ≤ 1000000000 ∧ x.1.length ≤ 600
theorem LinB.step {r : Lin} {p : Pair} (h : LinB r) : LinB (stepLin p r) := by
  refine ⟨by unfold stepLin; rw [List.length_map]; exact h.1, fun x hx => ?_⟩
  obtain ⟨y, hy, rfl⟩ := List.mem_map.mp hx
  obtain ⟨h1, h2, h3⟩ := h.2 y hy
  exact ⟨h1, h2, Nat.le_trans (joinedOnce_len _ _ _) h3⟩
theorem LinB.vals {r : Lin} (h : LinB r) (tk : Tk) (k : Pair) : 0 ≤ valF (countF tk (others r)) k ∧ valF (countF tk (others r)) k ≤ 100000000000000 := by
  have := count_le (tk := tk) (k := k) (B := 1000000000) (L := 600) (by decide) (others r) fun x hx => by
    obtain ⟨y, hy, rfl⟩ := List.mem_map.mp hx
    exact h.2 y hy
  have hl : (others r).length = r.length := by unfold others; rw [List.length_map]
  rw [hl] at this
  have := h.1
  omega
theorem run_hi : ∀ (n : Nat) (r : Lin) (tk : Tk) (c0 : Int) (m : Mg), LinB r → HiLe 100000000000000 m → HiLe 100000000000000 (margRun n r tk c0 m)
  | 0, _, _, _, m, _, h => h
  | n + 1, r, tk, c0, m, hr, h => by
    rw [margRun_succ]
    cases chosen (countF tk (linAt r c0)) with
    | none => exact steps_hi (by decide) (hr.vals tk) _ _ h
    | some p => exact run_hi n _ _ _ _ hr.step (steps_hi (by decide) (hr.vals tk) _ _ h)
theorem lin0_B {cs : List (Str × Int)} {e : Nat} (h : CorpG cs) : LinB (lin0 cs e) := by
  refine ⟨by unfold lin0; rw [List.length_mapIdx]; exact h.2.1, fun x hx => ?_⟩
  unfold lin0 at hx
  obtain ⟨i, hi, rfl⟩ := List.mem_mapIdx.mp hx
  obtain ⟨h1, h2, h3⟩ := h.2.2.2 _ (List.getElem_mem hi)
  dsimp only
  rw [signs_len]
  by_cases c : i = e
  · simp only [if_pos c]
    exact ⟨by decide, by decide, h1⟩
  · simp only [if_neg c]
    exact ⟨h2, h3, h1⟩
/-- what is trained with this count -/
def rul (cs : List (Str × Int)) (e n : Nat) (c : Int) : List Pair := rulesOf (trained (setC cs e c) n)
def marg (cs : List (Str × Int)) (e n : Nat) (c0 : Int) : Mg := margRun n (lin0 cs e) [] c0 (0, none)
theorem marg_sat (cs : List (Str × Int)) (e n : Nat) (c0 c : Int) : Sat (marg cs e n c0) c ↔ 0 ≤ c ∧ rul cs e n c = rul cs e n c0 := by
  have h := margRun_sat n (lin0 cs e) [] c0 c (0, none)
  rw [lin_set, lin_set] at h
  have h0 : Sat (0, none) c ↔ 0 ≤ c := ⟨fun h => h.1, fun h => ⟨h, fun x e => by cases e⟩⟩
  rw [h0] at h
  exact h
structure MargOk (cs : List (Str × Int)) (e n : Nat) (c0 : Int) (m : Mg) : Prop where
  lo0 : 0 ≤ m.1
  lo : m.1 ≤ c0
  loE : rul cs e n m.1 = rul cs e n c0
  loX : 0 < m.1 → rul cs e n (m.1 - 1) ≠ rul cs e n c0
  hi : ∀ h, m.2 = some h → c0 ≤ h ∧ h ≤ 100000000000000 ∧ rul cs e n h = rul cs e n c0 ∧ rul cs e n (h + 1) ≠ rul cs e n c0
  hiN : m.2 = none → rul cs e n 100000000000000 = rul cs e n c0
theorem marg_ok {cs : List (Str × Int)} {e n : Nat} {w : Str × Int} (h : CorpG cs) (ew : cs[e]? = some w) : MargOk cs e n w.2 (marg cs e n w.2) := by
  have sat := marg_sat cs e n w.2
  have hi := run_hi n (lin0 cs e) [] w.2 (0, none) (lin0_B h) (fun x e => by cases e)
  change HiLe _ (marg cs e n w.2) at hi
  obtain ⟨_, w0, w1⟩ := h.2.2.2 _ (List.mem_of_getElem? ew)
  have s0 := (sat w.2).mpr ⟨w0, rfl⟩
  generalize marg cs e n w.2 = m at *
  obtain ⟨a, b⟩ := s0
  have s1 := (sat m.1).mp ⟨Int.le_refl _, fun x ex => Int.le_trans a (b x ex)⟩
  refine ⟨s1.1, a, s1.2, fun hp hr => ?_, fun x ex => ⟨b x ex, hi x ex, ?_, fun hr => ?_⟩, fun ex => ?_⟩
  · have := (sat (m.1 - 1)).mpr ⟨by omega, hr⟩
    have := this.1
    omega
  · exact ((sat x).mp ⟨Int.le_trans a (b x ex), fun y ey => by rw [ex] at ey; cases ey; exact Int.le_refl _⟩).2
  · have h1 := b x ex
    have := ((sat (x + 1)).mpr ⟨by omega, hr⟩).2 x ex
    omega
  · exact ((sat 100000000000000).mp ⟨by omega, fun y ey => by rw [ex] at ey; cases ey⟩).2
def sp_u_law_right : DSp := fun ds M Q => ∃ (z : Str) (cs : List (Str × Int)) (n e : Nat) (tr : Bool), ds = [.str z, .tup (cs.map wordD), .int n, .int e, .bl tr] ∧ CorpG cs ∧ e < cs.length ∧ PyData.strOk z = true ∧ n < 100000 ∧ Q (.bl true) M
def rightRest : DTS :=
    (dSeq (dFor (dIter (dTup (dCons (dOp ixR (dVar 5) (dC (.int 0))) (dCons (dIf (dB (dOp isNR (dOp ixR (dVar 5) (dC (.int 1))) (dC .non))) (dOp powR (dC (.int 10)) (dC (.int 14))) (dOp ixR (dVar 5) (dC (.int 1)))) dNil)))) (dgName 8)
      (dSeq (dIfS (dB (dOp neR (dCall sp_u_law_rules (dCons (dVar 1) (dCons (dVar 3) (dCons (dVar 8) (dCons (dVar 2) dNil))))) (dVar 6)))
        (dRet (dC (.bl false)))
        dNext)
      (dIfS (dAnd (dB (dVar 4)) (dNot (dB (dCall sp_u_law_trains (dCons (dVar 0) (dCons (dVar 1) (dCons (dVar 3) (dCons (dVar 8) (dCons (dVar 2) (dCons (dVar 6) dNil))))))))))
        (dRet (dC (.bl false)))
        dNext)))
    (dSeq (dFor (dIter (dVar 7)) (dgName 8)
      (dSeq (dAsg (dCall sp_u_law_rules (dCons (dVar 1) (dCons (dVar 3) (dCons (dVar 8) (dCons (dVar 2) dNil))))) (dgName 9))
      (dIfS (dOr (dB (dOp eqR (dVar 9) (dVar 6))) (dAnd (dB (dVar 4)) (dNot (dB (dCall sp_u_law_trains (dCons (dVar 0) (dCons (dVar 1) (dCons (dVar 3) (dCons (dVar 8) (dCons (dVar 2) (dCons (dVar 9) dNil)))))))))))
        (dRet (dC (.bl false)))
        dNext)))
    (dRet (dC (.bl true)))))
theorem right_rest {z : Str} {cs : List (Str × Int)} {n e : Nat} {tr : Bool} {w : Str × Int} {m : Mg} {M : Store} {Q : DK} (ok : CorpS cs) (he : e < cs.length) (hz : PyData.strOk z = true) (hn : n < 100000) (mo : MargOk cs e n w.2 m) (q : Q (.bl true) M)
    (bs : List Int) (hb : ∀ b ∈ bs, rul cs e n b ≠ rul cs e n w.2) (a b : Option D) : rightRest (endsD M Q) [some (.str z), some (.tup (cs.map wordD)), some (.int (n : Nat)), some (.int (e : Nat)), some (.bl tr), some (.tup [.int m.1, hiD m.2]), some (.lst ((rul cs e n w.2).map pD)), some (.ref M.length), a, b] (M ++ [.lst (bs.map D.int)]) := by
  unfold rightRest
  have oR : ∀ c, ∀ p ∈ rul cs e n c, OkP p := fun c p hp => trained_ok (setC_S ok) hp
  walk_at "dl"
  refine ixR_tup (n := 0) rfl (ixR_tup (n := 1) rfl ?_)
  refine isNR_q ?_
  try dsimp only
  obtain ⟨c1, hc1, hev⟩ : ∃ c1, rul cs e n c1 = rul cs e n w.2 ∧ ∀ K : DK, K (.int c1) (M ++ [.lst (bs.map D.int)]) → (if (hiD m.2).isN = true then powR (.int 10) (.int 14) (M ++ [.lst (bs.map D.int)]) K else ixR (.tup [.int m.1, hiD m.2]) (.int 1) (M ++ [.lst (bs.map D.int)]) K) := by
    cases em : m.2 with
    | none =>
      refine ⟨_, mo.hiN em, fun K k => ?_⟩
      refine (if_pos (show D.isN (hiD none) = true from rfl)).symm ▸ ?_
      refine powR_int (by unfold CPow; decide) ?_
      have e10 : (10 : Int) ^ (14 : Int).toNat = 100000000000000 := by decide
      rw [e10]
      exact k
    | some h =>
      refine ⟨_, (mo.hi h em).2.2.1, fun K k => ?_⟩
      refine (if_neg (show ¬ D.isN (hiD (some h)) = true from Bool.false_ne_true)).symm ▸ ?_
      exact ixR_tup (n := 1) rfl k
  refine hev _ ⟨by show 2 ≤ sizeLine; decide, ?_⟩
  refine for_inv (fun i ρ M' => ∃ a b, ρ = [some (.str z), some (.tup (cs.map wordD)), some (.int (n : Nat)), some (.int (e : Nat)), some (.bl tr), some (.tup [.int m.1, hiD m.2]), some (.lst ((rul cs e n w.2).map pD)), some (.ref M.length), a, b] ∧ M' = M ++ [.lst (bs.map D.int)]) ⟨_, _, rfl, rfl⟩ ?_ ?_
  · rintro i x ρ M' ex ⟨a, b, rfl, rfl⟩
    obtain ⟨c, rfl, hc⟩ : ∃ c, x = .int c ∧ rul cs e n c = rul cs e n w.2 := by
      match i, ex with
      | 0, ex => cases ex; exact ⟨_, rfl, mo.loE⟩
      | 1, ex => cases ex; exact ⟨_, rfl, hc1⟩
    refine ⟨trivial, fun go k => ?_⟩
    walk_at "dl"
    refine ⟨cs, e, n, c, rfl, ok, hn, ?_⟩
    refine neR_pairs (rs := rul cs e n c) (ss := rul cs e n w.2) (oR _) (oR _) ?_
    rw [decide_eq_true hc]
    refine ite_nt ?_
    refine ite_bool (fun ht => ?_) (fun ht => ?_)
    · refine ⟨z, cs, e, n, c, by rw [show rulesOf (trained (setC cs e c) n) = rul cs e n w.2 from hc], ok, he, hz, hn, ?_⟩
      exact ite_nt (.inl (k _ _ ⟨_, _, rfl, rfl⟩))
    · exact ite_f (.inl (k _ _ ⟨_, _, rfl, rfl⟩))
  · rintro ρ M' ⟨a, b, rfl, rfl⟩
    refine ⟨trivial, ?_⟩
    walk_at "dl"
    have g0 : (M ++ [MO.lst (bs.map D.int)])[M.length]? = some (.lst (bs.map D.int)) := get_at0 _ _
    have e0 := viewL_cell g0
    dsimp only [viewL] at e0
    rw [e0]
    try dsimp only
    refine for_inv (fun i ρ M' => ∃ a b, ρ = [some (.str z), some (.tup (cs.map wordD)), some (.int (n : Nat)), some (.int (e : Nat)), some (.bl tr), some (.tup [.int m.1, hiD m.2]), some (.lst ((rul cs e n w.2).map pD)), some (.ref M.length), a, b] ∧ M' = M ++ [.lst (bs.map D.int)]) ⟨_, _, rfl, rfl⟩ ?_ ?_
    · rintro i x ρ M' ex ⟨a, b, rfl, rfl⟩
      rw [List.getElem?_map] at ex
      obtain ⟨c, ec, rfl⟩ := Option.map_eq_some_iff.mp ex
      refine ⟨viewL_cell g0, fun go k => ?_⟩
      walk_at "dl"
      refine ⟨cs, e, n, c, rfl, ok, hn, ?_⟩
      refine eqR_pairs (rs := rul cs e n c) (ss := rul cs e n w.2) (oR _) (oR _) ?_
      rw [decide_eq_false (hb c (List.mem_of_getElem? ec))]
      refine ite_f ?_
      refine ite_bool (fun ht => ?_) (fun ht => ?_)
      · refine ⟨z, cs, e, n, c, rfl, ok, he, hz, hn, ?_⟩
        exact ite_nt (.inl (k _ _ ⟨_, _, rfl, rfl⟩))
      · exact ite_f (.inl (k _ _ ⟨_, _, rfl, rfl⟩))
    · rintro ρ M' ⟨a, b, rfl, rfl⟩
      exact ⟨viewL_cell g0, RetOk.drop trivial q⟩
theorem dat_u_law_right (ds : List D) (M : Store) (Q : DK) (h : sp_u_law_right ds M Q) : t_u_law_right sp_margin_of sp_u_law_number sp_u_law_rules sp_u_law_trains (endsD M Q) (startD 10 ds) M := by
  obtain ⟨z, cs, n, e, tr, rfl, ok, he, hz, hn, q⟩ := h
  have ew : cs[e]? = some cs[e] := List.getElem?_eq_getElem he
  generalize cs[e] = w at ew
  have mo := marg_ok (n := n) ok ew
  show t_u_law_right _ _ _ _ (endsD M Q) [some (.str z), some (.tup (cs.map wordD)), some (.int (n : Nat)), some (.int (e : Nat)), some (.bl tr), none, none, none, none, none] M
  unfold t_u_law_right
  show dSeq _ (dSeq _ (dSeq _ (dSeq _ (dSeq _ (dSeq _ (dSeq _ (dSeq _ rightRest))))))) _ _ _
  have rr : ∀ bs hb a b, _ := right_rest (z := z) (tr := tr) ok.1 he hz hn mo q
  obtain ⟨w0, w1⟩ := (ok.2.2.2 _ (List.mem_of_getElem? ew)).2
  walk_at "dl"
  refine ⟨z, cs, n, e, w, rfl, ok.1, hn, ew, ?_⟩
  unfold marg at mo rr
  generalize margRun n (lin0 cs e) [] w.2 (0, none) = m at mo rr ⊢
  obtain ⟨mlo, mhi⟩ := m
  obtain ⟨m0, m1, _, mX, mh, _⟩ := id mo
  dsimp only at m0 m1 mX mh rr ⊢
  refine isi_at (by decide) (show tyI M (.tup _) = some "tuple" from rfl) (b := true) (by decide) (ite_nt ?_)
  refine lenR_tup (neR_int ?_)
  try dsimp only
  refine ite_ndec (fun h => absurd rfl h) fun _ => ?_
  refine ixR_tup (n := 0) rfl ⟨mlo, rfl, m0, by omega, ite_nt ?_⟩
  refine ixR_tup (n := 1) rfl (notNR_q ?_)
  try dsimp only
  have mlt : ¬ w.2 < mlo := by omega
  have own : ∀ K : DK, K (.lst ((rul cs e n w.2).map pD)) M → ixR (.tup (cs.map wordD)) (.int (e : Nat)) M fun x M1 => ixR x (.int 1) M1 fun y M2 => sp_u_law_rules [.tup (cs.map wordD), .int (e : Nat), y, .int (n : Nat)] M2 K := fun K k => ixR_tupm ew (ixR_tup (n := 1) rfl ⟨cs, e, n, w.2, rfl, ok.1, hn, k⟩)
  have fin : ∀ (bs : List Int) (G : Prop), (∀ b ∈ bs, rul cs e n b ≠ rul cs e n w.2) → (rightRest (endsD M Q) [some (.str z), some (.tup (cs.map wordD)), some (.int (n : Nat)), some (.int (e : Nat)), some (.bl tr), some (.tup [.int mlo, hiD mhi]), some (.lst ((rul cs e n w.2).map pD)), some (.ref M.length), none, none] (M ++ [.lst (bs.map D.int)]) → G) → G := fun bs G hb k => k (rr bs hb none none)
  rcases mhi with _ | h
  refine (if_neg (show ¬ (!(hiD none).isN) = true from by decide)).symm ▸ ?_
  refine ite_f ?_
  rotate_left
  refine (if_pos (show (!(hiD (some h)).isN) = true from rfl)).symm ▸ ?_
  refine ixR_tup (n := 1) rfl ⟨h, rfl, by have := mh h rfl; omega, (mh h rfl).2.1, ite_nt ?_⟩
  rotate_left
  all_goals refine own _ ?_
  all_goals refine ixR_tup (n := 0) rfl (ixR_tupm ew (ixR_tup (n := 1) rfl (gtR_int ?_)))
  all_goals try dsimp only
  all_goals refine ite_dec (fun h => absurd h mlt) fun _ => ?_
  all_goals refine ixR_tup (n := 1) rfl (notNR_q ?_)
  all_goals try dsimp only
  refine (if_neg (show ¬ (!(hiD none).isN) = true from by decide)).symm ▸ ?_
  refine ite_f ?_
  rotate_left
  refine (if_pos (show (!(hiD (some h)).isN) = true from rfl)).symm ▸ ?_
  refine ixR_tup (n := 1) rfl (ixR_tupm ew (ixR_tup (n := 1) rfl (ltR_int ?_)))
  try dsimp only
  refine ite_dec (fun hh => absurd hh (by have := (mh h rfl).1; omega)) fun _ => ?_
  rotate_left
  all_goals refine ⟨Nat.zero_le _, ?_⟩
  all_goals refine ixR_tup (n := 0) rfl (gtR_int ?_)
  all_goals try dsimp only
  all_goals refine ite_dec (fun hp => ?_) (fun hp => ?_)
  all_goals try refine ⟨tyM_lst (get_at0 _ _), ixR_tup (n := 0) rfl (subR_int (append_cell (get_at0 _ _) (by show 0 < sizeLine; decide) ?_))⟩
  all_goals try rw [set_at0]
  all_goals refine ixR_tup (n := 1) rfl (notNR_q ?_)
  all_goals try dsimp only
  · refine (if_neg (show ¬ (!(hiD none).isN) = true from by decide)).symm ▸ ?_
    exact rr [mlo - 1] (fun b hb => by rw [List.mem_singleton.mp hb]; exact mX hp) none none
  · refine (if_neg (show ¬ (!(hiD none).isN) = true from by decide)).symm ▸ ?_
    exact rr [] (fun b hb => by cases hb) none none
  · refine (if_pos (show (!(hiD (some h)).isN) = true from rfl)).symm ▸ ?_
    refine ⟨tyM_lst (get_at0 _ _), ixR_tup (n := 1) rfl (addR_int (append_cell (get_at0 _ _) (by show 1 < sizeLine; decide) ?_))⟩
    rw [set_at0]
    refine rr [mlo - 1, h + 1] (fun b hb => ?_) none none
    simp only [List.mem_cons, List.not_mem_nil, or_false] at hb
    rcases hb with rfl | rfl
    · exact mX hp
    · exact (mh h rfl).2.2.2
  · refine (if_pos (show (!(hiD (some h)).isN) = true from rfl)).symm ▸ ?_
    refine ⟨tyM_lst (get_at0 _ _), ixR_tup (n := 1) rfl (addR_int (append_cell (get_at0 _ _) (by show 0 < sizeLine; decide) ?_))⟩
    rw [set_at0]
    exact rr [h + 1] (fun b hb => by rw [List.mem_singleton.mp hb]; exact (mh h rfl).2.2.2) none none
end K

set_option Elab.async false
set_option linter.all false
set_option maxRecDepth 100000
set_option maxHeartbeats 2000000
namespace K
open PySem L2 DL
open PyProof.Rows hiding St signs inR
local macro_rules | `(tactic| walk_at "dl") => `(tactic| dsimp only [dSeq, dAsg, dgName, dVar, dC, dOp, dUn, dCB, dCons, dNil, dTup, dLst, dLstM, dNewK, dNewN, dRet, dRetN, dDrop, dIfS, dNext, dNever, dB, dAnd, dOr, dNot, dAndV, dOrV, dNotV, dIf, dMeth, dSl, dPart, dNoPart, dFor, dIter, dSetF, dFld, dMake0, dMethO, dKeysN, dEnumT, dgStr, dChain, dRange1, dRange2, dZip, dEnum, dLc, dLcM, dDc, dSortSet, dCall, dgSeq, dgSub, dgCons, dgNil, dPar, dAug, dBreak, dCont, dYes, endsD, slot, List.set_cons_zero, List.set_cons_succ, itemsD, listR, listRM, tupleR, viewL, viewS, DL.intOf, dwipe, setAll, Shape.bind])
local macro_rules | `(tactic| walk_at "op") => `(tactic| ((first | refine eqR_int ?_ | refine eqR_str ?_ | refine eqR_bl ?_ | refine neR_int ?_ | refine neR_str ?_ | refine ltR_int ?_ | refine leR_int ?_ | refine gtR_int ?_ | refine geR_int ?_ | refine addR_int ?_ | refine addR_str ?_ ?_ | refine iaddR_int ?_ | refine subR_int ?_ | refine isNR_q ?_ | refine notNR_q ?_ | refine lenR_lst ?_ | refine lenR_tup ?_ | refine intCR_int ?_ | refine intCR_bl ?_ | refine absR_int ?_); (try dsimp only)))
/-! the given corpus of two letters -/
def S (l : List Nat) : Str := ⟨l.toArray⟩
theorem S_app (l m : List Nat) : S l ++ S m = S (l ++ m) := by
  show (⟨l.toArray ++ m.toArray⟩ : Str) = ⟨(l ++ m).toArray⟩
  simp
theorem S_inj {l m : List Nat} : S l = S m ↔ l = m := by
  constructor
  · intro h
    have := congrArg (fun s : Str => s.cps.toList) h
    simpa [S] using this
  · intro h; rw [h]
theorem leS_S (l m : List Nat) : leS (S l) (S m) = decide (l ≤ m) := by
  rw [leS_eq]
  exact decide_eq_decide.mpr (by simp [S])
theorem lt_str (a b : Str) : (!PySem.W.dataLt (.str b) (.str a)) = leS a b := rfl
theorem leP_eq (p q : Pair) : PySem.W.dataLe false encP p q = if q.1 = p.1 then (if q.2 = p.2 then true else leS p.2 q.2) else leS p.1 q.1 := by
  rw [PySem.W.dataLe_eq]
  show (!PySem.W.dataLt (.tuple [.str q.1, .str q.2]) (.tuple [.str p.1, .str p.2])) = _
  rw [PySem.W.dataLt_pair rfl rfl]
  have e1 : ∀ a b : Str, PyData.eqv (.str a) (.str b) = decide (a = b) := fun a b => by
    show (a == b) = _
    by_cases h : a = b <;> simp [h]
  rw [e1, e1]
  by_cases h1 : q.1 = p.1
  · rw [if_pos (decide_eq_true h1), if_pos h1]
    by_cases h2 : q.2 = p.2
    · rw [if_pos (decide_eq_true h2), if_pos h2]
      rfl
    · rw [if_neg (by simpa using h2), if_neg h2]
      exact lt_str _ _
  · rw [if_neg (by simpa using h1), if_neg h1]
    exact lt_str _ _
theorem one_S {c : Str} (h : One c) : ∃ n, c = S [n] := h
theorem LetOk.lets {z : Str} {n : Nat} (h : LetOk z n) (h1 : 1 ≤ n) (h2 : n ≤ 26) : LetsOk z := ⟨by rw [h.len]; exact h1, by rw [h.len]; exact h2, h.2.2.2⟩
theorem nat_item {l : List Nat} {v : Nat} {M : Store} {Q : DK} (hv : v < l.length) (q : ∀ n ∈ l, Q (.int (n : Nat)) M) : ixR (.lst (l.map fun n => D.int (n : Nat))) (.int (v : Nat)) M Q :=
  ixR_lst (List.getElem?_eq_getElem hv) (q _ (List.getElem_mem _))
/-- two letters -/
theorem two_of {z : Str} (h : LetOk z 2) : ∃ x y, x < y ∧ z = S [x, y] := by
  obtain ⟨h1, h2, h3, h4⟩ := h
  match e : signs z, h1 with
  | [a, b], _ =>
    rw [e] at h2 h3
    obtain ⟨x, ex⟩ := one_S (signs_one (z := z) (c := a) (by rw [e]; simp))
    obtain ⟨y, ey⟩ := one_S (signs_one (z := z) (c := b) (by rw [e]; simp))
    subst ex ey
    refine ⟨x, y, ?_, str_of_signs (e.trans rfl)⟩
    have hle : leS (S [x]) (S [y]) = true := by simpa using h3
    have hne : S [x] ≠ S [y] := by simpa using h2
    rw [leS_S, decide_eq_true_eq, List.cons_le_cons_iff] at hle
    rcases hle with h | ⟨h, _⟩
    · exact h
    · exact absurd (by rw [h]) hne
theorem signs_S (l : List Nat) : signs (S l) = l.map fun n => S [n] := by
  unfold signs S
  simp
theorem S_len (l : List Nat) : (S l).length = l.length := by
  show l.toArray.size = _
  simp
theorem mul_S (x n : Nat) (h : 1 ≤ n) : Txt.mul (S [x]) (n : Nat) = S (List.replicate n x) := by
  unfold Txt.mul
  rw [if_neg (by omega)]
  by_cases h1 : n = 1
  · subst h1
    rfl
  · have hc : ¬ ((((n : Nat) : Int) == 1 || (S [x]).length == 0) = true) := by
      rw [S_len]
      simp
      omega
    rw [if_neg hc]
    refine DL.str_of_list ?_
    show ((List.replicate ((n : Nat) : Int).toNat (S [x]).cps).foldl (· ++ ·) (#[] : Array Nat)).toList = _
    rw [foldl_app_toList, Int.toNat_natCast]
    simp [S]
theorem ok_S {l : List Nat} (h : ∀ n ∈ l, PyData.strOk (S [n]) = true) : PyData.strOk (S l) = true := by
  rw [strOk_signs, signs_S]
  intro c hc
  obtain ⟨n, hn, rfl⟩ := List.mem_map.mp hc
  exact h n hn
end K

set_option Elab.async false
set_option linter.all false
set_option maxRecDepth 100000
set_option maxHeartbeats 2000000
namespace K
open PySem L2 DL
open PyProof.Rows hiding St signs inR
theorem mg_ext {m m' : Mg} (h : ∀ c, Sat m c ↔ Sat m' c) (ne : Sat m' m'.1) : m = m' := by
  have h1 := (h m'.1).mpr ne
  have h2 : Sat m m.1 := ⟨Int.le_refl _, fun x ex => Int.le_trans h1.1 (h1.2 x ex)⟩
  have h3 := (h m.1).mp h2
  obtain ⟨a, b⟩ := m
  obtain ⟨a', b'⟩ := m'
  have ea : a = a' := Int.le_antisymm h1.1 h3.1
  subst ea
  have s : ∀ x, b = some x → a ≤ x := fun x ex => h2.2 x ex
  have s' : ∀ x, b' = some x → a ≤ x := fun x ex => ne.2 x ex
  cases b with
  | none =>
    cases b' with
    | none => rfl
    | some y =>
      have := ((h (y + 1)).mp ⟨by have := s' y rfl; show a ≤ y + 1; omega, fun x ex => by cases ex⟩).2 y rfl
      omega
  | some x =>
    cases b' with
    | none =>
      have := ((h (x + 1)).mpr ⟨by have := s x rfl; show a ≤ x + 1; omega, fun x ex => by cases ex⟩).2 x rfl
      omega
    | some y =>
      have h5 := ((h x).mp ⟨s x rfl, fun z ez => by cases ez; exact Int.le_refl _⟩).2 y rfl
      have h6 := ((h y).mpr ⟨s' y rfl, fun z ez => by cases ez; exact Int.le_refl _⟩).2 x rfl
      rw [show x = y by omega]
theorem marg_eq {cs : List (Str × Int)} {e n : Nat} {c0 lo : Int} {hi : Option Int} (l0 : 0 ≤ lo) (ne : ∀ h, hi = some h → lo ≤ h) (h : ∀ c, 0 ≤ c → (rul cs e n c = rul cs e n c0 ↔ lo ≤ c ∧ ∀ h, hi = some h → c ≤ h)) : marg cs e n c0 = (lo, hi) := by
  refine mg_ext (fun c => ?_) ⟨Int.le_refl _, ne⟩
  rw [marg_sat]
  constructor
  · rintro ⟨a, b⟩
    exact (h c a).mp b
  · intro s
    have c0' : 0 ≤ c := Int.le_trans l0 s.1
    exact ⟨c0', (h c c0').mpr s⟩
theorem step_iff {n : Nat} {rcs : Rcs} {tk : Tk} {f : F} {P : Pair} {rest : List Pair} (ef : countF tk rcs = f) (nd : (f.map (·.1)).Nodup) : rulesOf (train (n + 1) rcs tk) = P :: rest ↔ Right f (some P) ∧ rulesOf (train n (stepRows P rcs) (aPut tk (P.1 ++ P.2) true)) = rest := by
  rw [rules_step, ef, ← chosen_iff nd]
  cases chosen f with
  | none => simp
  | some q =>
    dsimp only
    constructor
    · intro h
      obtain ⟨h1, h2⟩ := List.cons.inj h
      subst h1
      exact ⟨rfl, h2⟩
    · rintro ⟨h1, h2⟩
      cases h1
      rw [h2]
theorem step_nil {n : Nat} {rcs : Rcs} {tk : Tk} {f : F} (ef : countF tk rcs = f) (nd : (f.map (·.1)).Nodup) : rulesOf (train (n + 1) rcs tk) = [] ↔ Right f none := by
  rw [rules_step, ef, ← chosen_iff nd]
  cases chosen f with
  | none => simp
  | some q => simp
def PP (x : Nat) : Pair := (S [x], S [x])
theorem PP_inj {x y : Nat} : PP x = PP y ↔ x = y := by
  unfold PP
  constructor
  · intro h
    have := (Prod.mk.inj h).1
    rw [S_inj] at this
    simpa using this
  · rintro rfl
    rfl
theorem lt_of_le (p q : Pair) : ltP p q = !(PySem.W.dataLe false encP q p) := by
  rw [leP_lt]
  simp
theorem lt_PP (x y : Nat) : ltP (PP x) (PP y) = decide (x < y) := by
  by_cases h : x = y
  · subst h
    rw [ltP_irr]
    simp
  · rw [lt_of_le, leP_eq]
    have hne : ¬ (PP x).1 = (PP y).1 := fun e => h (PP_inj.mp (Prod.ext e e))
    rw [if_neg hne]
    show (!leS (S [y]) (S [x])) = _
    rw [leS_S]
    by_cases h2 : x < y
    · rw [decide_eq_true h2, decide_eq_false]
      · rfl
      · rw [List.cons_le_cons_iff]
        rintro (h3 | ⟨h3, _⟩)
        · exact absurd h3 (by omega)
        · exact absurd h3.symm h
    · rw [decide_eq_false h2, decide_eq_true]
      · rfl
      · rw [List.cons_le_cons_iff]
        exact .inl (by omega)
theorem gap_PP (x y : Nat) : gapP (PP x) (PP y) = if x < y then 1 else 0 := by
  unfold gapP
  rw [lt_PP]
  by_cases h : x < y <;> simp [h]
/-! the four lines of _law_sure -/
def rcsA (x y l : Nat) (a d b c : Int) : Rcs := [([S [x], S [x]], a), ([S [y]], d), ([S [y], S [y]], b), ([S [l], S [l]], c)]
theorem countA {x y l : Nat} (h1 : x < y) (h2 : y < l) (a d b c : Int) : countF [] (rcsA x y l a d b c) = [(PP x, a), (PP y, b), (PP l, c)] := by
  have n1 : x ≠ y := by omega
  have n2 : y ≠ l := by omega
  have n3 : x ≠ l := by omega
  have m1 := n1.symm
  have m2 := n2.symm
  have m3 := n3.symm
  simp [countF, rcsA, addRow, pairsOf, bump, aGet, aPut, S_inj, PP, n1, n2, n3, m1, m2, m3]
theorem nd3 {x y l : Nat} (h1 : x < y) (h2 : y < l) (a b c : Int) : (([(PP x, a), (PP y, b), (PP l, c)] : F).map (·.1)).Nodup := by
  simp [PP_inj]
  omega
theorem rightA1 {x y l : Nat} (h1 : x < y) (h2 : y < l) (a b c : Int) : Right [(PP x, a), (PP y, b), (PP l, c)] (some (PP x)) ↔ 1 ≤ a ∧ b ≤ a ∧ c ≤ a := by
  have n1 : ¬ y = x := by omega
  have n2 : ¬ l = x := by omega
  have n3 : ¬ x = y := by omega
  have n4 : ¬ x = l := by omega
  have n5 : ¬ y = l := by omega
  have v1 : valF [(PP x, a), (PP y, b), (PP l, c)] (PP x) = a := by simp [valF, aGet]
  have v2 : valF [(PP x, a), (PP y, b), (PP l, c)] (PP y) = b := by simp [valF, aGet, PP_inj, n1, n3]
  have v3 : valF [(PP x, a), (PP y, b), (PP l, c)] (PP l) = c := by simp [valF, aGet, PP_inj, n2, n4, n5]
  unfold Right
  simp only [List.map_cons, List.map_nil, List.mem_cons, List.not_mem_nil, or_false, true_or, true_and, v1]
  constructor
  · rintro ⟨ha, h⟩
    have hy := h (PP y) (by simp) (by rw [Ne, PP_inj]; exact n1)
    have hl := h (PP l) (by simp) (by rw [Ne, PP_inj]; exact n2)
    rw [v2, gap_PP, if_neg (by omega)] at hy
    rw [v3, gap_PP, if_neg (by omega)] at hl
    omega
  · rintro ⟨ha, hb, hc⟩
    refine ⟨ha, fun o ho hne => ?_⟩
    rcases ho with rfl | rfl | rfl
    · exact (hne rfl).elim
    · rw [v2, gap_PP, if_neg (by omega)]; omega
    · rw [v3, gap_PP, if_neg (by omega)]; omega
theorem right2 {y l : Nat} (h2 : y < l) (b c : Int) : Right [(PP y, b), (PP l, c)] (some (PP y)) ↔ 1 ≤ b ∧ c ≤ b := by
  have n2 : ¬ l = y := by omega
  have n3 : ¬ y = l := by omega
  have v2 : valF [(PP y, b), (PP l, c)] (PP y) = b := by simp [valF, aGet]
  have v3 : valF [(PP y, b), (PP l, c)] (PP l) = c := by simp [valF, aGet, PP_inj, n2, n3]
  unfold Right
  simp only [List.map_cons, List.map_nil, List.mem_cons, List.not_mem_nil, or_false, true_or, true_and, v2]
  constructor
  · rintro ⟨ha, h⟩
    have hl := h (PP l) (by simp) (by rw [Ne, PP_inj]; exact n2)
    rw [v3, gap_PP, if_neg (by omega)] at hl
    omega
  · rintro ⟨ha, hb⟩
    refine ⟨ha, fun o ho hne => ?_⟩
    rcases ho with rfl | rfl
    · exact (hne rfl).elim
    · rw [v3, gap_PP, if_neg (by omega)]; omega
theorem right2' {x y : Nat} (h2 : x < y) (b c : Int) : Right [(PP x, b), (PP y, c)] (some (PP y)) ↔ 1 ≤ c ∧ b + 1 ≤ c := by
  have n2 : ¬ y = x := by omega
  have n3 : ¬ x = y := by omega
  have v2 : valF [(PP x, b), (PP y, c)] (PP x) = b := by simp [valF, aGet]
  have v3 : valF [(PP x, b), (PP y, c)] (PP y) = c := by simp [valF, aGet, PP_inj, n2, n3]
  unfold Right
  simp only [List.map_cons, List.map_nil, List.mem_cons, List.not_mem_nil, or_false, or_true, true_and, v3]
  constructor
  · rintro ⟨ha, h⟩
    have hl := h (PP x) (by simp) (by rw [Ne, PP_inj]; exact n3)
    rw [v2, gap_PP, if_pos (by omega)] at hl
    omega
  · rintro ⟨ha, hb⟩
    refine ⟨ha, fun o ho hne => ?_⟩
    rcases ho with rfl | rfl
    · rw [v2, gap_PP, if_pos (by omega)]; omega
    · exact (hne rfl).elim
theorem rightN {x y : Nat} (h2 : x < y) (b c : Int) : Right [(PP x, b), (PP y, c)] none ↔ b ≤ 0 ∧ c ≤ 0 := by
  have n2 : ¬ y = x := by omega
  have n3 : ¬ x = y := by omega
  have v2 : valF [(PP x, b), (PP y, c)] (PP x) = b := by simp [valF, aGet]
  have v3 : valF [(PP x, b), (PP y, c)] (PP y) = c := by simp [valF, aGet, PP_inj, n2, n3]
  unfold Right
  constructor
  · intro h
    have h1 := h (PP x) (by simp)
    have h2 := h (PP y) (by simp)
    rw [v2] at h1
    rw [v3] at h2
    exact ⟨h1, h2⟩
  · rintro ⟨ha, hb⟩ o ho
    simp only [List.map_cons, List.map_nil, List.mem_cons, List.not_mem_nil, or_false] at ho
    rcases ho with rfl | rfl
    · rw [v2]; exact ha
    · rw [v3]; exact hb
theorem right1 {l : Nat} (c : Int) : Right [(PP l, c)] (some (PP l)) ↔ 1 ≤ c := by
  have v : valF [(PP l, c)] (PP l) = c := by simp [valF, aGet]
  unfold Right
  simp only [List.map_cons, List.map_nil, List.mem_cons, List.not_mem_nil, or_false, true_and, v]
  exact ⟨fun h => h.1, fun h => ⟨h, fun o ho hne => (hne ho).elim⟩⟩
theorem abcN {x y l : Nat} (h1 : x < y) (h2 : y < l) (a d b c : Int) (n : Nat) (rest : List Pair) : rulesOf (train (n + 2) (rcsA x y l a d b c) []) = PP x :: PP y :: rest ↔ (1 ≤ a ∧ b ≤ a ∧ c ≤ a) ∧ (1 ≤ b ∧ c ≤ b) ∧ rulesOf (train n [([S [x, x]], a), ([S [y]], d), ([S [y, y]], b), ([S [l], S [l]], c)] [(S [x, x], true), (S [y, y], true)]) = rest := by
  have n1 : x ≠ y := by omega
  have n2 : y ≠ l := by omega
  have n3 : x ≠ l := by omega
  have m1 := n1.symm
  have m2 := n2.symm
  have m3 := n3.symm
  rw [step_iff (countA h1 h2 a d b c) (nd3 h1 h2 a b c), rightA1 h1 h2]
  have e1 : stepRows (PP x) (rcsA x y l a d b c) = [([S [x, x]], a), ([S [y]], d), ([S [y], S [y]], b), ([S [l], S [l]], c)] := by simp [stepRows, rcsA, joinedOnce, S_app, S_inj, PP, n1, n2, n3, m1, m2, m3]
  have e2 : aPut ([] : Tk) ((PP x).1 ++ (PP x).2) true = [(S [x, x], true)] := by simp [aPut, aGet, S_app, PP]
  rw [e1, e2]
  have e3 : countF [(S [x, x], true)] [([S [x, x]], a), ([S [y]], d), ([S [y], S [y]], b), ([S [l], S [l]], c)] = [(PP y, b), (PP l, c)] := by simp [countF, addRow, pairsOf, bump, aGet, aPut, S_inj, S_app, PP, n1, n2, n3, m1, m2, m3]
  rw [step_iff e3 (by simp [PP_inj, n2]), right2 h2]
  have e4 : stepRows (PP y) [([S [x, x]], a), ([S [y]], d), ([S [y], S [y]], b), ([S [l], S [l]], c)] = [([S [x, x]], a), ([S [y]], d), ([S [y, y]], b), ([S [l], S [l]], c)] := by simp [stepRows, joinedOnce, S_app, S_inj, PP, n1, n2, n3, m1, m2, m3]
  have e5 : aPut ([(S [x, x], true)] : Tk) ((PP y).1 ++ (PP y).2) true = [(S [x, x], true), (S [y, y], true)] := by simp [aPut, aGet, S_app, S_inj, PP, n1, m1]
  rw [e4, e5]
theorem abc3 {x y l : Nat} (h1 : x < y) (h2 : y < l) (a d b c : Int) : rulesOf (train 3 (rcsA x y l a d b c) []) = [PP x, PP y, PP l] ↔ 1 ≤ c ∧ c ≤ b ∧ b ≤ a := by
  have n1 : x ≠ y := by omega
  have n2 : y ≠ l := by omega
  have n3 : x ≠ l := by omega
  have m1 := n1.symm
  have m2 := n2.symm
  have m3 := n3.symm
  rw [abcN h1 h2 a d b c 1]
  have e3 : countF [(S [x, x], true), (S [y, y], true)] [([S [x, x]], a), ([S [y]], d), ([S [y, y]], b), ([S [l], S [l]], c)] = [(PP l, c)] := by simp [countF, addRow, pairsOf, bump, aGet, aPut, S_inj, S_app, PP, n1, n2, n3, m1, m2, m3]
  rw [step_iff e3 (by simp), right1]
  have e4 : ∀ (r : Rcs) (t : Tk), rulesOf (train 0 r t) = [] := fun r t => rfl
  simp only [e4, and_true]
  omega
theorem abc2 {x y l : Nat} (h1 : x < y) (h2 : y < l) (a d b c : Int) : rulesOf (train 2 (rcsA x y l a d b c) []) = [PP x, PP y] ↔ 1 ≤ b ∧ c ≤ b ∧ b ≤ a := by
  rw [abcN h1 h2 a d b c 0]
  have e4 : ∀ (r : Rcs) (t : Tk), rulesOf (train 0 r t) = [] := fun r t => rfl
  simp only [e4, and_true]
  omega
def rcsB (x y : Nat) (a g : Int) : Rcs := [([S [x], S [x]], a), ([S [y], S [y], S [y]], g)]
theorem countB {x y : Nat} (h1 : x < y) (a g : Int) : countF [] (rcsB x y a g) = [(PP x, a), (PP y, g + g)] := by
  have n1 : x ≠ y := by omega
  have m1 := n1.symm
  simp [countF, rcsB, addRow, pairsOf, bump, aGet, aPut, S_inj, PP, n1, m1]
theorem b1 {x y : Nat} (h1 : x < y) (a g : Int) : rulesOf (train 1 (rcsB x y a g) []) = [PP y] ↔ 1 ≤ g ∧ a + 1 ≤ g + g := by
  rw [step_iff (countB h1 a g) (by simp [PP_inj]; omega), right2' h1]
  have e4 : ∀ (r : Rcs) (t : Tk), rulesOf (train 0 r t) = [] := fun r t => rfl
  simp only [e4, and_true]
  omega
theorem bN {x y n : Nat} (h1 : x < y) (a g : Int) : rulesOf (train (n + 1) (rcsB x y a g) []) = [] ↔ a ≤ 0 ∧ g ≤ 0 := by
  rw [step_nil (countB h1 a g) (by simp [PP_inj]; omega), rightN h1]
  omega
/-! the margins of _law_sure -/
def csA (x y l : Nat) (a b c : Int) : List (Str × Int) := [(S [x, x], a), (S [y], 5), (S [y, y], b), (S [l, l], c)]
def csB (x y : Nat) (a g : Int) : List (Str × Int) := [(S [x, x], a), (S [y, y, y], g)]
theorem rulA0 (x y l : Nat) (a b c v : Int) (n : Nat) : rul (csA x y l a b c) 0 n v = rulesOf (train n (rcsA x y l v 5 b c) []) := by
  simp [rul, trained, setC, csA, rows0, rcsA, signs_S]
theorem rulA1 (x y l : Nat) (a b c v : Int) (n : Nat) : rul (csA x y l a b c) 1 n v = rulesOf (train n (rcsA x y l a v b c) []) := by
  simp [rul, trained, setC, csA, rows0, rcsA, signs_S]
theorem rulA2 (x y l : Nat) (a b c v : Int) (n : Nat) : rul (csA x y l a b c) 2 n v = rulesOf (train n (rcsA x y l a 5 v c) []) := by
  simp [rul, trained, setC, csA, rows0, rcsA, signs_S]
theorem rulA3 (x y l : Nat) (a b c v : Int) (n : Nat) : rul (csA x y l a b c) 3 n v = rulesOf (train n (rcsA x y l a 5 b v) []) := by
  simp [rul, trained, setC, csA, rows0, rcsA, signs_S]
theorem rulB0 (x y : Nat) (a g v : Int) (n : Nat) : rul (csB x y a g) 0 n v = rulesOf (train n (rcsB x y v g) []) := by
  simp [rul, trained, setC, csB, rows0, rcsB, signs_S]
theorem rulB1 (x y : Nat) (a g v : Int) (n : Nat) : rul (csB x y a g) 1 n v = rulesOf (train n (rcsB x y a v) []) := by
  simp [rul, trained, setC, csB, rows0, rcsB, signs_S]
section
variable {x y l : Nat} (h1 : x < y) (h2 : y < l) {a b c : Int} (k1 : 1 ≤ c) (k2 : c ≤ b) (k3 : b ≤ a)
include h1 h2 k1 k2 k3
theorem margA2 : marg (csA x y l a b c) 2 3 b = (c, some a) := by
  refine marg_eq (by omega) (fun h e => by cases e; omega) fun v hv => ?_
  rw [rulA2, rulA2, (abc3 h1 h2 a 5 b c).mpr ⟨k1, k2, k3⟩, abc3 h1 h2]
  exact ⟨fun ⟨p, q, r⟩ => ⟨q, fun h e => by cases e; exact r⟩, fun ⟨p, q⟩ => ⟨k1, p, q a rfl⟩⟩
theorem margA0 : marg (csA x y l a b c) 0 3 a = (b, none) := by
  refine marg_eq (by omega) (fun h e => by cases e) fun v hv => ?_
  rw [rulA0, rulA0, (abc3 h1 h2 a 5 b c).mpr ⟨k1, k2, k3⟩, abc3 h1 h2]
  exact ⟨fun ⟨p, q, r⟩ => ⟨r, fun h e => by cases e⟩, fun ⟨p, q⟩ => ⟨k1, k2, p⟩⟩
theorem margA3 : marg (csA x y l a b c) 3 3 c = (1, some b) := by
  refine marg_eq (by omega) (fun h e => by cases e; omega) fun v hv => ?_
  rw [rulA3, rulA3, (abc3 h1 h2 a 5 b c).mpr ⟨k1, k2, k3⟩, abc3 h1 h2]
  exact ⟨fun ⟨p, q, r⟩ => ⟨p, fun h e => by cases e; exact q⟩, fun ⟨p, q⟩ => ⟨p, q b rfl, k3⟩⟩
theorem margA1 : marg (csA x y l a b c) 1 2 5 = (0, none) := by
  refine marg_eq (by omega) (fun h e => by cases e) fun v hv => ?_
  rw [rulA1, rulA1, (abc2 h1 h2 a 5 b c).mpr ⟨by omega, k2, k3⟩, (abc2 h1 h2 a v b c).mpr ⟨by omega, k2, k3⟩]
  exact ⟨fun _ => ⟨hv, fun h e => by cases e⟩, fun _ => rfl⟩
end
theorem margB1 {x y : Nat} (h1 : x < y) {a g : Int} (k1 : 0 ≤ a) (k2 : 1 ≤ g) (k3 : a + 1 ≤ g + g) : marg (csB x y a g) 0 1 a = (0, some (2 * g - 1)) := by
  refine marg_eq (by omega) (fun h e => by cases e; omega) fun v hv => ?_
  rw [rulB0, rulB0, (b1 h1 a g).mpr ⟨k2, k3⟩, b1 h1]
  exact ⟨fun ⟨p, q⟩ => ⟨hv, fun h e => by cases e; omega⟩, fun ⟨p, q⟩ => ⟨k2, by have := q _ rfl; omega⟩⟩
theorem marg0 (cs : List (Str × Int)) (e : Nat) (c : Int) : marg cs e 0 c = (0, none) := by
  refine marg_eq (by omega) (fun h e => by cases e) fun v hv => ?_
  exact ⟨fun _ => ⟨hv, fun h e => by cases e⟩, fun _ => rfl⟩
theorem margC {x y : Nat} (h1 : x < y) {n e : Nat} (he : e < 2) : marg (csB x y 0 0) e (n + 1) 0 = (0, some 0) := by
  refine marg_eq (by omega) (fun h e => by cases e; omega) fun v hv => ?_
  match e, he with
  | 0, _ =>
    rw [rulB0, rulB0, (bN h1 0 0).mpr ⟨by omega, by omega⟩, bN h1]
    exact ⟨fun ⟨p, q⟩ => ⟨hv, fun h e => by cases e; exact p⟩, fun ⟨p, q⟩ => ⟨q _ rfl, by omega⟩⟩
  | 1, _ =>
    rw [rulB1, rulB1, (bN h1 0 0).mpr ⟨by omega, by omega⟩, bN h1]
    exact ⟨fun ⟨p, q⟩ => ⟨hv, fun h e => by cases e; exact q⟩, fun ⟨p, q⟩ => ⟨by omega, q _ rfl⟩⟩
end K

set_option Elab.async false
set_option linter.all false
set_option maxRecDepth 100000
set_option maxHeartbeats 2000000
namespace K
open PySem L2 DL
open PyProof.Rows hiding St signs inR
local macro_rules | `(tactic| walk_at "dl") => `(tactic| dsimp only [dSeq, dAsg, dgName, dVar, dC, dOp, dUn, dCB, dCons, dNil, dTup, dLst, dLstM, dNewK, dNewN, dRet, dRetN, dDrop, dIfS, dNext, dNever, dB, dAnd, dOr, dNot, dAndV, dOrV, dNotV, dIf, dMeth, dSl, dPart, dNoPart, dFor, dIter, dSetF, dFld, dMake0, dMethO, dKeysN, dEnumT, dgStr, dChain, dRange1, dRange2, dZip, dEnum, dLc, dLcM, dDc, dSortSet, dCall, dgSeq, dgSub, dgCons, dgNil, dPar, dAug, dBreak, dCont, dYes, endsD, slot, List.set_cons_zero, List.set_cons_succ, itemsD, listR, listRM, tupleR, viewL, viewS, DL.intOf, dwipe, setAll, Shape.bind])
local macro_rules | `(tactic| walk_at "op") => `(tactic| ((first | refine eqR_int ?_ | refine eqR_str ?_ | refine eqR_bl ?_ | refine neR_int ?_ | refine neR_str ?_ | refine ltR_int ?_ | refine leR_int ?_ | refine gtR_int ?_ | refine geR_int ?_ | refine addR_int ?_ | refine addR_str ?_ ?_ | refine iaddR_int ?_ | refine subR_int ?_ | refine isNR_q ?_ | refine notNR_q ?_ | refine lenR_lst ?_ | refine lenR_tup ?_ | refine intCR_int ?_ | refine intCR_bl ?_ | refine absR_int ?_); (try dsimp only)))
/-! the given corpus of two letters -/
def sp_u_law_is : DSp := fun ds M Q => ∃ (z : Str) (cs : List (Str × Int)) (n e : Nat) (w : Str × Int) (lo : Int) (hi : Option Int), ds = [.str z, .tup (cs.map wordD), .int n, .int e, .int lo, hiD hi] ∧ CorpG cs ∧ cs[e]? = some w ∧ n < 100000 ∧ marg cs e n w.2 = (lo, hi) ∧ Q (.bl true) M
theorem dat_u_law_is (ds : List D) (M : Store) (Q : DK) (h : sp_u_law_is ds M Q) : t_u_law_is sp_margin_of sp_u_law_number (endsD M Q) (startD 7 ds) M := by
  obtain ⟨z, cs, n, e, w, lo, hi, rfl, ok, ew, hn, hm, q⟩ := h
  have mo := marg_ok (n := n) ok ew
  rw [hm] at mo
  obtain ⟨w0, w1⟩ := (ok.2.2.2 _ (List.mem_of_getElem? ew)).2
  obtain ⟨m0, m1, _, _, mh, _⟩ := mo
  dsimp only at m0 m1 mh
  show t_u_law_is _ _ (endsD M Q) [some (.str z), some (.tup (cs.map wordD)), some (.int (n : Nat)), some (.int (e : Nat)), some (.int lo), some (hiD hi), none] M
  unfold t_u_law_is
  walk_at "dl"
  refine ⟨z, cs, n, e, w, rfl, ok.1, hn, ew, ?_⟩
  unfold marg at hm
  rw [hm]
  try dsimp only
  refine isi_at (by decide) (show tyI M (.tup _) = some "tuple" from rfl) (b := true) (by decide) (ite_nt ?_)
  refine lenR_tup (neR_int ?_)
  try dsimp only
  refine ite_ndec (fun h => absurd rfl h) fun _ => ?_
  refine ixR_tup (n := 0) rfl ⟨lo, rfl, m0, by omega, ite_nt ?_⟩
  refine ixR_tup (n := 0) rfl (neR_int ?_)
  try dsimp only
  refine ite_ndec (fun h => absurd rfl h) fun _ => ?_
  refine isNR_q ?_
  try dsimp only
  cases hi with
  | none =>
    refine (if_pos (show (hiD none).isN = true from rfl)).symm ▸ ?_
    refine ixR_tup (n := 1) rfl (isNR_q ?_)
    exact .inl q
  | some h =>
    refine (if_neg (show ¬ (hiD (some h)).isN = true from Bool.false_ne_true)).symm ▸ ?_
    refine ixR_tup (n := 1) rfl ⟨h, rfl, by have := mh h rfl; omega, (mh h rfl).2.1, ?_⟩
    try dsimp only
    refine ixR_tup (n := 1) rfl ?_
    refine eqR_int ?_
    rw [decide_eq_true rfl]
    exact .inl q
theorem three_of {z : Str} (h : LetOk z 3) : ∃ x y l, x < y ∧ y < l ∧ z = S [x, y, l] := by
  obtain ⟨h1, h2, h3, h4⟩ := h
  match e : signs z, h1 with
  | [a, b, c], _ =>
    rw [e] at h2 h3
    obtain ⟨x, ex⟩ := one_S (signs_one (z := z) (c := a) (by rw [e]; simp))
    obtain ⟨y, ey⟩ := one_S (signs_one (z := z) (c := b) (by rw [e]; simp))
    obtain ⟨l, el⟩ := one_S (signs_one (z := z) (c := c) (by rw [e]; simp))
    subst ex ey el
    have lt : ∀ x y : Nat, leS (S [x]) (S [y]) = true → S [x] ≠ S [y] → x < y := fun x y hle hne => by
      rw [leS_S, decide_eq_true_eq, List.cons_le_cons_iff] at hle
      rcases hle with h | ⟨h, _⟩
      · exact h
      · exact absurd (by rw [h]) hne
    simp at h2 h3
    exact ⟨x, y, l, lt _ _ h3.1.1 h2.1.1, lt _ _ h3.2 h2.2, str_of_signs (e.trans rfl)⟩
def sp_u_law_sure : DSp := fun ds M Q => ds = [.ref 1] ∧ PS M ∧ ∀ M', PS M' → Q (.bl true) M'
theorem corpG_of {cs : List (Str × Int)} (h1 : cs.length ≤ 101) (h2 : 1 ≤ cs.length) (h : ∀ x ∈ cs, x.1.length ≤ 600 ∧ PyData.strOk x.1 = true ∧ 0 ≤ x.2 ∧ x.2 ≤ 1000000000) : CorpG cs :=
  ⟨⟨⟨by omega, fun x hx => Nat.lt_of_le_of_lt (h x hx).1 (by decide)⟩, fun x hx => (h x hx).2.1⟩, h1, h2, fun x hx => ⟨(h x hx).1, (h x hx).2.2⟩⟩
theorem csA_G {x y l : Nat} (ox : PyData.strOk (S [x]) = true) (oy : PyData.strOk (S [y]) = true) (ol : PyData.strOk (S [l]) = true) {a b c : Int} (ha : 0 ≤ a ∧ a ≤ 1000000000) (hb : 0 ≤ b ∧ b ≤ 1000000000) (hc : 0 ≤ c ∧ c ≤ 1000000000) : CorpG (csA x y l a b c) := by
  refine corpG_of (by simp [csA]) (by simp [csA]) fun w hw => ?_
  simp only [csA, List.mem_cons, List.not_mem_nil, or_false] at hw
  rcases hw with rfl | rfl | rfl | rfl
  · exact ⟨by show (S _).length ≤ 600; rw [S_len]; simp, ok_S fun n hn => by simp at hn; subst hn; exact ox, ha⟩
  · exact ⟨by show (S _).length ≤ 600; rw [S_len]; simp, oy, by show (0 : Int) ≤ 5; decide, by show (5 : Int) ≤ 1000000000; decide⟩
  · exact ⟨by show (S _).length ≤ 600; rw [S_len]; simp, ok_S fun n hn => by simp at hn; subst hn; exact oy, hb⟩
  · exact ⟨by show (S _).length ≤ 600; rw [S_len]; simp, ok_S fun n hn => by simp at hn; subst hn; exact ol, hc⟩
theorem csB_G {x y : Nat} (ox : PyData.strOk (S [x]) = true) (oy : PyData.strOk (S [y]) = true) {a b : Int} (ha : 0 ≤ a ∧ a ≤ 1000000000) (hb : 0 ≤ b ∧ b ≤ 1000000000) : CorpG (csB x y a b) := by
  refine corpG_of (by simp [csB]) (by simp [csB]) fun w hw => ?_
  simp only [csB, List.mem_cons, List.not_mem_nil, or_false] at hw
  rcases hw with rfl | rfl
  · exact ⟨by show (S _).length ≤ 600; rw [S_len]; simp, ok_S fun n hn => by simp at hn; subst hn; exact ox, ha⟩
  · exact ⟨by show (S _).length ≤ 600; rw [S_len]; simp, ok_S fun n hn => by simp at hn; subst hn; exact oy, hb⟩
theorem dat_u_law_sure (ds : List D) (M : Store) (Q : DK) (h : sp_u_law_sure ds M Q) : t_u_law_sure sp_u_law_letters sp_u_law_draw sp_u_law_is (endsD M Q) (startD 10 ds) M := by
  obtain ⟨rfl, hM, q⟩ := h
  show t_u_law_sure _ _ _ (endsD M Q) [some (.ref 1), none, none, none, none, none, none, none, none, none] M
  unfold t_u_law_sure
  walk_at "dl"
  refine ⟨3, rfl, hM, by omega, fun z M1 hM1 hz => ?_⟩
  obtain ⟨x, y, l, hxy, hyl, rfl⟩ := three_of hz
  have oz := hz.2.2.2
  have ox : PyData.strOk (S [x]) = true := strOk_signs.mp oz _ (by rw [signs_S]; simp)
  have oy : PyData.strOk (S [y]) = true := strOk_signs.mp oz _ (by rw [signs_S]; simp)
  have ol : PyData.strOk (S [l]) = true := strOk_signs.mp oz _ (by rw [signs_S]; simp)
  dsimp only [dgStr]
  rw [signs_S]
  refine ⟨rfl, ?_⟩
  refine ⟨rfl, ?_⟩
  refine draw_at (many := 30) hM1 (by omega) fun v1 L1 hL1 hv1 => addR_int ?_
  try dsimp only
  refine draw_at (many := 9) hL1 (by omega) fun v2 L2 hL2 hv2 => addR_int ?_
  try dsimp only
  refine draw_at (many := 2) hL2 (by omega) fun v3 L3 hL3 hv3 => ?_
  refine powR_int (by unfold CPow; decide) (subR_int ?_)
  try dsimp only
  have e1 : (10 : Int) ^ (9 : Int).toNat - 100 = ((999999900 : Nat) : Int) := by decide
  rw [e1]
  refine draw_at (many := 999999900) hL3 (by omega) fun v4 L4 hL4 hv4 => ?_
  refine mulR_int (.inl ⟨by omega, by omega⟩) (addR_int ?_)
  try dsimp only
  have hmul : (v3 : Int) * (v4 : Nat) ≤ 999999899 ∧ 0 ≤ (v3 : Int) * (v4 : Nat) := by
    have h3 : v3 = 0 ∨ v3 = 1 := by omega
    rcases h3 with rfl | rfl
    · simp
    · simp; omega
  generalize hhi : (1 : Int) + (v1 : Nat) + (v2 : Nat) + (v3 : Nat) * (v4 : Nat) = hi
  generalize hmi : (1 : Int) + (v1 : Nat) + (v2 : Nat) = mid at hhi
  generalize hlo : (1 : Int) + (v1 : Nat) = low at hmi
  have mu : ∀ (n c : Nat) (M : Store) (K : DK), 1 ≤ c → c ≤ 100 → K (.str (S (List.replicate c n))) M → mulR (.str (S [n])) (.int (c : Nat)) M K := fun n c M K h1 h2 k => by
    refine mulR_str (mulOk (by omega) (by rw [S_len]; simp)) ?_
    rw [mul_S _ _ h1]
    exact k
  have two2 : (2 : Nat) ≤ sizeLine := by decide
  have four4 : (4 : Nat) ≤ sizeLine := by decide
  refine mu x 2 _ _ (by omega) (by omega) ⟨two2, two2, mu y 2 _ _ (by omega) (by omega) ⟨two2, mu l 2 _ _ (by omega) (by omega) ⟨two2, four4, ?_⟩⟩⟩
  have gA : CorpG (csA x y l hi mid low) := csA_G ox oy ol (by omega) (by omega) (by omega)
  have k1 : 1 ≤ low := by omega
  have k2 : low ≤ mid := by omega
  have k3 : mid ≤ hi := by omega
  refine ⟨S [x, y, l], csA x y l hi mid low, 3, 2, (S [y, y], mid), low, some hi, rfl, gA, rfl, by omega, margA2 hxy hyl k1 k2 k3, ite_nt ?_⟩
  refine ⟨S [x, y, l], csA x y l hi mid low, 3, 0, (S [x, x], hi), mid, none, rfl, gA, rfl, by omega, margA0 hxy hyl k1 k2 k3, ite_nt ?_⟩
  refine ⟨S [x, y, l], csA x y l hi mid low, 3, 3, (S [l, l], low), 1, some mid, rfl, gA, rfl, by omega, margA3 hxy hyl k1 k2 k3, ite_nt ?_⟩
  refine ⟨S [x, y, l], csA x y l hi mid low, 2, 1, (S [y], 5), 0, none, rfl, gA, rfl, by omega, margA1 hxy hyl k1 k2 k3, ite_nt ?_⟩
  refine powR_int (by unfold CPow; decide) ?_
  refine draw_at (many := 99) hL4 (by omega) fun v5 L5 hL5 hv5 => subR_int ?_
  try dsimp only
  have e10 : (10 : Int) ^ (9 : Int).toNat = 1000000000 := by decide
  rw [e10]
  generalize hg : (1000000000 : Int) - (v5 : Nat) = g
  refine mu x 2 _ _ (by omega) (by omega) ?_
  refine draw_at (many := 9) hL5 (by omega) fun v6 L6 hL6 hv6 => ⟨two2, mu y 3 _ _ (by omega) (by omega) ⟨two2, two2, ?_⟩⟩
  have gB : CorpG (csB x y (v6 : Nat) g) := csB_G ox oy (by omega) (by omega)
  refine mulR_int (.inl ⟨by decide, by decide⟩) (subR_int ?_)
  refine ⟨S [x, y, l], csB x y (v6 : Nat) g, 1, 0, (S [x, x], (v6 : Nat)), 0, some (2 * g - 1), rfl, gB, rfl, by omega, margB1 hxy (by omega) (by omega) (by omega), ite_nt ?_⟩
  refine ⟨S [x, y, l], csB x y (v6 : Nat) g, 0, 0, (S [x, x], (v6 : Nat)), 0, none, rfl, gB, rfl, by omega, marg0 _ _ _, ite_nt ?_⟩
  refine mu x 2 _ _ (by omega) (by omega) ⟨two2, mu y 3 _ _ (by omega) (by omega) ⟨two2, two2, ?_⟩⟩
  have gC : CorpG (csB x y 0 0) := csB_G ox oy (by omega) (by omega)
  refine draw_at (many := 16) hL6 (by omega) fun v7 L7 hL7 hv7 => addR_int ?_
  refine draw_at (many := 2) hL7 (by omega) fun v8 L8 hL8 hv8 => ?_
  have ew : ∃ w, (csB x y 0 0)[v8]? = some w ∧ w.2 = 0 := by
    have h8 : v8 = 0 ∨ v8 = 1 := by omega
    rcases h8 with rfl | rfl
    · exact ⟨_, rfl, rfl⟩
    · exact ⟨_, rfl, rfl⟩
  obtain ⟨w, ew, ew2⟩ := ew
  refine ⟨S [x, y, l], csB x y 0 0, v7 + 1, v8, w, 0, some 0, ?_, gC, ew, by omega, by rw [ew2]; exact margC hxy (by omega), .inl (q _ hL8)⟩
  have e2 : (1 : Int) + (v7 : Nat) = ((v7 + 1 : Nat) : Int) := by omega
  rw [e2]
  rfl
def sp_law : DSp := fun ds M Q => ∃ ns : List Int, ds = [.lst (ns.map D.int)] ∧ ns.length ≤ 63 ∧ M = [] ∧ ∀ M', Q (.bl true) M'
theorem dat_law (ds : List D) (M : Store) (Q : DK) (h : sp_law ds M Q) : t_law sp_u_law_pool sp_u_law_letters sp_u_law_draw sp_u_law_corpus sp_u_law_right sp_u_law_sure sp_u_law_wide (endsD M Q) (startD 7 ds) M := by
  obtain ⟨ns, rfl, hn, rfl, q⟩ := h
  show t_law _ _ _ _ _ _ _ (endsD [] Q) [some (.lst (ns.map D.int)), none, none, none, none, none, none] []
  unfold t_law
  walk_at "dl"
  refine ⟨ns, rfl, rfl, hn, fun M1 hM1 => ?_⟩
  refine ⟨by omega, by omega, ?_⟩
  refine for_inv (fun i ρ M' => PS M' ∧ ∃ (a b c d e : Option D), ρ = [some (.lst (ns.map D.int)), some (.ref 1), a, b, c, d, e])
    ⟨hM1, _, _, _, _, _, rfl⟩ ?_ ?_
  · rintro i x ρ M' ex ⟨hM', a, b, c, d, e, rfl⟩
    obtain ⟨rfl, hi⟩ := range_item ex
    have hi : i < 3 := hi
    refine ⟨trivial, fun go k => ?_⟩
    walk_at "dl"
    refine ⟨(by show 5 ≤ sizeLine; decide), ?_⟩
    refine draw_at (many := 5) hM' (by omega) fun v L1 hL1 hv => ?_
    refine nat_item (l := [1, 2, 2, 3, 5]) (by simpa using hv) fun many hmany => ?_
    have hmany2 : 1 ≤ many ∧ many ≤ 26 := by
      simp at hmany
      omega
    refine ⟨many, rfl, hL1, hmany2.2, fun z M2 hM2 hz => ?_⟩
    have hzl := hz.lets hmany2.1 hmany2.2
    refine ⟨(by show 3 ≤ sizeLine; decide), ?_⟩
    refine nat_item (l := [4, 9, 16]) (by simpa using hi) fun most hmost => ?_
    have hmost2 : most ≤ 100 := by
      simp at hmost
      omega
    refine draw_at (many := 6) hM2 (by omega) fun v3 L3 hL3 hv3 => addR_int ?_
    refine ⟨z, most, 1 + v3, rfl, hL3, hzl, hmost2, by omega, fun cs L4 hL4 ok => ?_⟩
    refine ⟨(by show 4 ≤ sizeLine; decide), ?_⟩
    refine draw_at (many := 4) hL4 (by omega) fun v4 L5 hL5 hv4 => ?_
    refine nat_item (l := [1, 2, 4, 16]) (by simpa using hv4) fun steps hsteps => ?_
    have hst : steps < 900 := by
      simp at hsteps
      omega
    refine ⟨by omega, by omega, ?_⟩
    refine for_inv (fun j ρ M' => PS M' ∧ ∃ (e : Option D), ρ = [some (.lst (ns.map D.int)), some (.ref 1), some (.int (i : Nat)), some (.str z), some (.tup (cs.map wordD)), some (.int (steps : Nat)), e])
      ⟨hL5, _, rfl⟩ ?_ ?_
    · rintro j x ρ M' ex ⟨hM', e, rfl⟩
      obtain ⟨rfl, hj⟩ := range_item ex
      refine ⟨trivial, fun go2 k2 => ?_⟩
      walk_at "dl"
      refine lenR_tup ?_
      rw [List.length_map]
      have hcl := ok.2.1
      have hcl1 := ok.2.2.1
      refine draw_at (many := cs.length) hM' (by omega) fun v5 L6 hL6 hv5 => eqR_int ?_
      refine ⟨z, cs, steps, v5, _, rfl, ok, by omega, hzl.2.2, by omega, ite_nt ?_⟩
      exact .inl (k2 _ _ ⟨hL6, _, rfl⟩)
    · rintro ρ M' ⟨hM', e, rfl⟩
      exact ⟨trivial, .inl (k _ _ ⟨hM', _, _, _, _, _, rfl⟩)⟩
  rintro ρ M' ⟨hM', a, b, c, d, e, rfl⟩
  refine ⟨trivial, ?_⟩
  walk_at "dl"
  refine ⟨rfl, hM', fun M2 hM2 => ite_nt ?_⟩
  refine draw_at (many := 13) hM2 (by omega) fun v7 L8 hL8 hv7 => eqR_int ?_
  try dsimp only
  refine ite_dec (fun h => ?_) (fun h => ?_)
  · refine draw_at (many := 4) hL8 (by omega) fun v8 L9 hL9 hv8 => addR_int ?_
    refine ⟨2 + v8, rfl, hL9, by omega, fun six L10 hL10 hsix => ?_⟩
    have hsl := hsix.lets (by omega) (by omega)
    refine ⟨six, rfl, hL10, hsl, by rw [hsix.len]; omega, fun cs3 L11 hL11 ok3 hl3 => ?_⟩
    refine draw_at (many := 40) hL11 (by omega) fun v9 L12 hL12 hv9 => ?_
    refine ⟨six, cs3, 16, v9, false, rfl, ok3, by omega, hsl.2.2, by omega, ite_nt ?_⟩
    exact ⟨rfl, hL12, fun M3 hM3 => .inl (q _)⟩
  · exact ⟨rfl, hL8, fun M3 hM3 => .inl (q _)⟩
end K

set_option Elab.async false
set_option linter.all false
set_option maxRecDepth 100000
set_option maxHeartbeats 2000000
namespace K
open PySem L2 DL
open PyProof.Rows hiding St signs inR
theorem len_joined_once (ds : List D) (M : Store) (Q : DK) (h : sp_joined_once ds M Q) : ds.length = 3 := by
  first | (obtain ⟨rfl, _⟩ := h; rfl) | (obtain ⟨_, rfl, _⟩ := h; rfl) | (obtain ⟨_, _, rfl, _⟩ := h; rfl) | (obtain ⟨_, _, _, rfl, _⟩ := h; rfl) | (obtain ⟨_, _, _, _, rfl, _⟩ := h; rfl) | (obtain ⟨_, _, _, _, _, rfl, _⟩ := h; rfl) | (obtain ⟨_, _, _, _, _, _, rfl, _⟩ := h; rfl) | (obtain ⟨_, _, _, _, _, _, _, rfl, _⟩ := h; rfl) | (obtain ⟨_, _, _, _, _, _, _, _, rfl, _⟩ := h; rfl) | (obtain ⟨_, _, _, _, _, _, _, _, _, rfl, _⟩ := h; rfl) | (obtain ⟨_, _, _, _, _, _, _, _, _, _, rfl, _⟩ := h; rfl) | (obtain ⟨_, _, _, _, _, _, _, _, _, _, _, rfl, _⟩ := h; rfl) | (obtain ⟨_, _, _, _, _, _, _, _, _, _, _, _, rfl, _⟩ := h; rfl) | (obtain ⟨_, _, _, _, _, _, _, _, _, _, _, _, _, rfl, _⟩ := h; rfl)
theorem len_pair_counts (ds : List D) (M : Store) (Q : DK) (h : sp_pair_counts ds M Q) : ds.length = 3 := by
  first | (obtain ⟨rfl, _⟩ := h; rfl) | (obtain ⟨_, rfl, _⟩ := h; rfl) | (obtain ⟨_, _, rfl, _⟩ := h; rfl) | (obtain ⟨_, _, _, rfl, _⟩ := h; rfl) | (obtain ⟨_, _, _, _, rfl, _⟩ := h; rfl) | (obtain ⟨_, _, _, _, _, rfl, _⟩ := h; rfl) | (obtain ⟨_, _, _, _, _, _, rfl, _⟩ := h; rfl) | (obtain ⟨_, _, _, _, _, _, _, rfl, _⟩ := h; rfl) | (obtain ⟨_, _, _, _, _, _, _, _, rfl, _⟩ := h; rfl) | (obtain ⟨_, _, _, _, _, _, _, _, _, rfl, _⟩ := h; rfl) | (obtain ⟨_, _, _, _, _, _, _, _, _, _, rfl, _⟩ := h; rfl) | (obtain ⟨_, _, _, _, _, _, _, _, _, _, _, rfl, _⟩ := h; rfl) | (obtain ⟨_, _, _, _, _, _, _, _, _, _, _, _, rfl, _⟩ := h; rfl) | (obtain ⟨_, _, _, _, _, _, _, _, _, _, _, _, _, rfl, _⟩ := h; rfl)
theorem len_chosen_pair (ds : List D) (M : Store) (Q : DK) (h : sp_chosen_pair ds M Q) : ds.length = 1 := by
  first | (obtain ⟨rfl, _⟩ := h; rfl) | (obtain ⟨_, rfl, _⟩ := h; rfl) | (obtain ⟨_, _, rfl, _⟩ := h; rfl) | (obtain ⟨_, _, _, rfl, _⟩ := h; rfl) | (obtain ⟨_, _, _, _, rfl, _⟩ := h; rfl) | (obtain ⟨_, _, _, _, _, rfl, _⟩ := h; rfl) | (obtain ⟨_, _, _, _, _, _, rfl, _⟩ := h; rfl) | (obtain ⟨_, _, _, _, _, _, _, rfl, _⟩ := h; rfl) | (obtain ⟨_, _, _, _, _, _, _, _, rfl, _⟩ := h; rfl) | (obtain ⟨_, _, _, _, _, _, _, _, _, rfl, _⟩ := h; rfl) | (obtain ⟨_, _, _, _, _, _, _, _, _, _, rfl, _⟩ := h; rfl) | (obtain ⟨_, _, _, _, _, _, _, _, _, _, _, rfl, _⟩ := h; rfl) | (obtain ⟨_, _, _, _, _, _, _, _, _, _, _, _, rfl, _⟩ := h; rfl) | (obtain ⟨_, _, _, _, _, _, _, _, _, _, _, _, _, rfl, _⟩ := h; rfl)
theorem len_u_law_pool (ds : List D) (M : Store) (Q : DK) (h : sp_u_law_pool ds M Q) : ds.length = 1 := by
  first | (obtain ⟨rfl, _⟩ := h; rfl) | (obtain ⟨_, rfl, _⟩ := h; rfl) | (obtain ⟨_, _, rfl, _⟩ := h; rfl) | (obtain ⟨_, _, _, rfl, _⟩ := h; rfl) | (obtain ⟨_, _, _, _, rfl, _⟩ := h; rfl) | (obtain ⟨_, _, _, _, _, rfl, _⟩ := h; rfl) | (obtain ⟨_, _, _, _, _, _, rfl, _⟩ := h; rfl) | (obtain ⟨_, _, _, _, _, _, _, rfl, _⟩ := h; rfl) | (obtain ⟨_, _, _, _, _, _, _, _, rfl, _⟩ := h; rfl) | (obtain ⟨_, _, _, _, _, _, _, _, _, rfl, _⟩ := h; rfl) | (obtain ⟨_, _, _, _, _, _, _, _, _, _, rfl, _⟩ := h; rfl) | (obtain ⟨_, _, _, _, _, _, _, _, _, _, _, rfl, _⟩ := h; rfl) | (obtain ⟨_, _, _, _, _, _, _, _, _, _, _, _, rfl, _⟩ := h; rfl) | (obtain ⟨_, _, _, _, _, _, _, _, _, _, _, _, _, rfl, _⟩ := h; rfl)
theorem len_u_law_draw (ds : List D) (M : Store) (Q : DK) (h : sp_u_law_draw ds M Q) : ds.length = 2 := by
  first | (obtain ⟨rfl, _⟩ := h; rfl) | (obtain ⟨_, rfl, _⟩ := h; rfl) | (obtain ⟨_, _, rfl, _⟩ := h; rfl) | (obtain ⟨_, _, _, rfl, _⟩ := h; rfl) | (obtain ⟨_, _, _, _, rfl, _⟩ := h; rfl) | (obtain ⟨_, _, _, _, _, rfl, _⟩ := h; rfl) | (obtain ⟨_, _, _, _, _, _, rfl, _⟩ := h; rfl) | (obtain ⟨_, _, _, _, _, _, _, rfl, _⟩ := h; rfl) | (obtain ⟨_, _, _, _, _, _, _, _, rfl, _⟩ := h; rfl) | (obtain ⟨_, _, _, _, _, _, _, _, _, rfl, _⟩ := h; rfl) | (obtain ⟨_, _, _, _, _, _, _, _, _, _, rfl, _⟩ := h; rfl) | (obtain ⟨_, _, _, _, _, _, _, _, _, _, _, rfl, _⟩ := h; rfl) | (obtain ⟨_, _, _, _, _, _, _, _, _, _, _, _, rfl, _⟩ := h; rfl) | (obtain ⟨_, _, _, _, _, _, _, _, _, _, _, _, _, rfl, _⟩ := h; rfl)
theorem len_u_law_joined (ds : List D) (M : Store) (Q : DK) (h : sp_u_law_joined ds M Q) : ds.length = 2 := by
  first | (obtain ⟨rfl, _⟩ := h; rfl) | (obtain ⟨_, rfl, _⟩ := h; rfl) | (obtain ⟨_, _, rfl, _⟩ := h; rfl) | (obtain ⟨_, _, _, rfl, _⟩ := h; rfl) | (obtain ⟨_, _, _, _, rfl, _⟩ := h; rfl) | (obtain ⟨_, _, _, _, _, rfl, _⟩ := h; rfl) | (obtain ⟨_, _, _, _, _, _, rfl, _⟩ := h; rfl) | (obtain ⟨_, _, _, _, _, _, _, rfl, _⟩ := h; rfl) | (obtain ⟨_, _, _, _, _, _, _, _, rfl, _⟩ := h; rfl) | (obtain ⟨_, _, _, _, _, _, _, _, _, rfl, _⟩ := h; rfl) | (obtain ⟨_, _, _, _, _, _, _, _, _, _, rfl, _⟩ := h; rfl) | (obtain ⟨_, _, _, _, _, _, _, _, _, _, _, rfl, _⟩ := h; rfl) | (obtain ⟨_, _, _, _, _, _, _, _, _, _, _, _, rfl, _⟩ := h; rfl) | (obtain ⟨_, _, _, _, _, _, _, _, _, _, _, _, _, rfl, _⟩ := h; rfl)
theorem len_u_law_number (ds : List D) (M : Store) (Q : DK) (h : sp_u_law_number ds M Q) : ds.length = 1 := by
  first | (obtain ⟨rfl, _⟩ := h; rfl) | (obtain ⟨_, rfl, _⟩ := h; rfl) | (obtain ⟨_, _, rfl, _⟩ := h; rfl) | (obtain ⟨_, _, _, rfl, _⟩ := h; rfl) | (obtain ⟨_, _, _, _, rfl, _⟩ := h; rfl) | (obtain ⟨_, _, _, _, _, rfl, _⟩ := h; rfl) | (obtain ⟨_, _, _, _, _, _, rfl, _⟩ := h; rfl) | (obtain ⟨_, _, _, _, _, _, _, rfl, _⟩ := h; rfl) | (obtain ⟨_, _, _, _, _, _, _, _, rfl, _⟩ := h; rfl) | (obtain ⟨_, _, _, _, _, _, _, _, _, rfl, _⟩ := h; rfl) | (obtain ⟨_, _, _, _, _, _, _, _, _, _, rfl, _⟩ := h; rfl) | (obtain ⟨_, _, _, _, _, _, _, _, _, _, _, rfl, _⟩ := h; rfl) | (obtain ⟨_, _, _, _, _, _, _, _, _, _, _, _, rfl, _⟩ := h; rfl) | (obtain ⟨_, _, _, _, _, _, _, _, _, _, _, _, _, rfl, _⟩ := h; rfl)
theorem len_Margin___init__ (C_Margin : Addr) (ds : List D) (M : Store) (Q : DK) (h : sp_Margin___init__ C_Margin ds M Q) : ds.length = 1 := by
  first | (obtain ⟨rfl, _⟩ := h; rfl) | (obtain ⟨_, rfl, _⟩ := h; rfl) | (obtain ⟨_, _, rfl, _⟩ := h; rfl) | (obtain ⟨_, _, _, rfl, _⟩ := h; rfl) | (obtain ⟨_, _, _, _, rfl, _⟩ := h; rfl) | (obtain ⟨_, _, _, _, _, rfl, _⟩ := h; rfl) | (obtain ⟨_, _, _, _, _, _, rfl, _⟩ := h; rfl) | (obtain ⟨_, _, _, _, _, _, _, rfl, _⟩ := h; rfl) | (obtain ⟨_, _, _, _, _, _, _, _, rfl, _⟩ := h; rfl) | (obtain ⟨_, _, _, _, _, _, _, _, _, rfl, _⟩ := h; rfl) | (obtain ⟨_, _, _, _, _, _, _, _, _, _, rfl, _⟩ := h; rfl) | (obtain ⟨_, _, _, _, _, _, _, _, _, _, _, rfl, _⟩ := h; rfl) | (obtain ⟨_, _, _, _, _, _, _, _, _, _, _, _, rfl, _⟩ := h; rfl) | (obtain ⟨_, _, _, _, _, _, _, _, _, _, _, _, _, rfl, _⟩ := h; rfl)
theorem len_Margin_narrow (C_Margin : Addr) (ds : List D) (M : Store) (Q : DK) (h : sp_Margin_narrow C_Margin ds M Q) : ds.length = 3 := by
  first | (obtain ⟨rfl, _⟩ := h; rfl) | (obtain ⟨_, rfl, _⟩ := h; rfl) | (obtain ⟨_, _, rfl, _⟩ := h; rfl) | (obtain ⟨_, _, _, rfl, _⟩ := h; rfl) | (obtain ⟨_, _, _, _, rfl, _⟩ := h; rfl) | (obtain ⟨_, _, _, _, _, rfl, _⟩ := h; rfl) | (obtain ⟨_, _, _, _, _, _, rfl, _⟩ := h; rfl) | (obtain ⟨_, _, _, _, _, _, _, rfl, _⟩ := h; rfl) | (obtain ⟨_, _, _, _, _, _, _, _, rfl, _⟩ := h; rfl) | (obtain ⟨_, _, _, _, _, _, _, _, _, rfl, _⟩ := h; rfl) | (obtain ⟨_, _, _, _, _, _, _, _, _, _, rfl, _⟩ := h; rfl) | (obtain ⟨_, _, _, _, _, _, _, _, _, _, _, rfl, _⟩ := h; rfl) | (obtain ⟨_, _, _, _, _, _, _, _, _, _, _, _, rfl, _⟩ := h; rfl) | (obtain ⟨_, _, _, _, _, _, _, _, _, _, _, _, _, rfl, _⟩ := h; rfl)
theorem len_trained_steps (ds : List D) (M : Store) (Q : DK) (h : sp_trained_steps ds M Q) : ds.length = 2 := by
  first | (obtain ⟨rfl, _⟩ := h; rfl) | (obtain ⟨_, rfl, _⟩ := h; rfl) | (obtain ⟨_, _, rfl, _⟩ := h; rfl) | (obtain ⟨_, _, _, rfl, _⟩ := h; rfl) | (obtain ⟨_, _, _, _, rfl, _⟩ := h; rfl) | (obtain ⟨_, _, _, _, _, rfl, _⟩ := h; rfl) | (obtain ⟨_, _, _, _, _, _, rfl, _⟩ := h; rfl) | (obtain ⟨_, _, _, _, _, _, _, rfl, _⟩ := h; rfl) | (obtain ⟨_, _, _, _, _, _, _, _, rfl, _⟩ := h; rfl) | (obtain ⟨_, _, _, _, _, _, _, _, _, rfl, _⟩ := h; rfl) | (obtain ⟨_, _, _, _, _, _, _, _, _, _, rfl, _⟩ := h; rfl) | (obtain ⟨_, _, _, _, _, _, _, _, _, _, _, rfl, _⟩ := h; rfl) | (obtain ⟨_, _, _, _, _, _, _, _, _, _, _, _, rfl, _⟩ := h; rfl) | (obtain ⟨_, _, _, _, _, _, _, _, _, _, _, _, _, rfl, _⟩ := h; rfl)
theorem len_narrow_step (C_Margin : Addr) (ds : List D) (M : Store) (Q : DK) (h : sp_narrow_step C_Margin ds M Q) : ds.length = 4 := by
  first | (obtain ⟨rfl, _⟩ := h; rfl) | (obtain ⟨_, rfl, _⟩ := h; rfl) | (obtain ⟨_, _, rfl, _⟩ := h; rfl) | (obtain ⟨_, _, _, rfl, _⟩ := h; rfl) | (obtain ⟨_, _, _, _, rfl, _⟩ := h; rfl) | (obtain ⟨_, _, _, _, _, rfl, _⟩ := h; rfl) | (obtain ⟨_, _, _, _, _, _, rfl, _⟩ := h; rfl) | (obtain ⟨_, _, _, _, _, _, _, rfl, _⟩ := h; rfl) | (obtain ⟨_, _, _, _, _, _, _, _, rfl, _⟩ := h; rfl) | (obtain ⟨_, _, _, _, _, _, _, _, _, rfl, _⟩ := h; rfl) | (obtain ⟨_, _, _, _, _, _, _, _, _, _, rfl, _⟩ := h; rfl) | (obtain ⟨_, _, _, _, _, _, _, _, _, _, _, rfl, _⟩ := h; rfl) | (obtain ⟨_, _, _, _, _, _, _, _, _, _, _, _, rfl, _⟩ := h; rfl) | (obtain ⟨_, _, _, _, _, _, _, _, _, _, _, _, _, rfl, _⟩ := h; rfl)
theorem len_u_law_letters (ds : List D) (M : Store) (Q : DK) (h : sp_u_law_letters ds M Q) : ds.length = 2 := by
  first | (obtain ⟨rfl, _⟩ := h; rfl) | (obtain ⟨_, rfl, _⟩ := h; rfl) | (obtain ⟨_, _, rfl, _⟩ := h; rfl) | (obtain ⟨_, _, _, rfl, _⟩ := h; rfl) | (obtain ⟨_, _, _, _, rfl, _⟩ := h; rfl) | (obtain ⟨_, _, _, _, _, rfl, _⟩ := h; rfl) | (obtain ⟨_, _, _, _, _, _, rfl, _⟩ := h; rfl) | (obtain ⟨_, _, _, _, _, _, _, rfl, _⟩ := h; rfl) | (obtain ⟨_, _, _, _, _, _, _, _, rfl, _⟩ := h; rfl) | (obtain ⟨_, _, _, _, _, _, _, _, _, rfl, _⟩ := h; rfl) | (obtain ⟨_, _, _, _, _, _, _, _, _, _, rfl, _⟩ := h; rfl) | (obtain ⟨_, _, _, _, _, _, _, _, _, _, _, rfl, _⟩ := h; rfl) | (obtain ⟨_, _, _, _, _, _, _, _, _, _, _, _, rfl, _⟩ := h; rfl) | (obtain ⟨_, _, _, _, _, _, _, _, _, _, _, _, _, rfl, _⟩ := h; rfl)
theorem len_u_law_word (ds : List D) (M : Store) (Q : DK) (h : sp_u_law_word ds M Q) : ds.length = 3 := by
  first | (obtain ⟨rfl, _⟩ := h; rfl) | (obtain ⟨_, rfl, _⟩ := h; rfl) | (obtain ⟨_, _, rfl, _⟩ := h; rfl) | (obtain ⟨_, _, _, rfl, _⟩ := h; rfl) | (obtain ⟨_, _, _, _, rfl, _⟩ := h; rfl) | (obtain ⟨_, _, _, _, _, rfl, _⟩ := h; rfl) | (obtain ⟨_, _, _, _, _, _, rfl, _⟩ := h; rfl) | (obtain ⟨_, _, _, _, _, _, _, rfl, _⟩ := h; rfl) | (obtain ⟨_, _, _, _, _, _, _, _, rfl, _⟩ := h; rfl) | (obtain ⟨_, _, _, _, _, _, _, _, _, rfl, _⟩ := h; rfl) | (obtain ⟨_, _, _, _, _, _, _, _, _, _, rfl, _⟩ := h; rfl) | (obtain ⟨_, _, _, _, _, _, _, _, _, _, _, rfl, _⟩ := h; rfl) | (obtain ⟨_, _, _, _, _, _, _, _, _, _, _, _, rfl, _⟩ := h; rfl) | (obtain ⟨_, _, _, _, _, _, _, _, _, _, _, _, _, rfl, _⟩ := h; rfl)
theorem len_u_law_count (ds : List D) (M : Store) (Q : DK) (h : sp_u_law_count ds M Q) : ds.length = 2 := by
  first | (obtain ⟨rfl, _⟩ := h; rfl) | (obtain ⟨_, rfl, _⟩ := h; rfl) | (obtain ⟨_, _, rfl, _⟩ := h; rfl) | (obtain ⟨_, _, _, rfl, _⟩ := h; rfl) | (obtain ⟨_, _, _, _, rfl, _⟩ := h; rfl) | (obtain ⟨_, _, _, _, _, rfl, _⟩ := h; rfl) | (obtain ⟨_, _, _, _, _, _, rfl, _⟩ := h; rfl) | (obtain ⟨_, _, _, _, _, _, _, rfl, _⟩ := h; rfl) | (obtain ⟨_, _, _, _, _, _, _, _, rfl, _⟩ := h; rfl) | (obtain ⟨_, _, _, _, _, _, _, _, _, rfl, _⟩ := h; rfl) | (obtain ⟨_, _, _, _, _, _, _, _, _, _, rfl, _⟩ := h; rfl) | (obtain ⟨_, _, _, _, _, _, _, _, _, _, _, rfl, _⟩ := h; rfl) | (obtain ⟨_, _, _, _, _, _, _, _, _, _, _, _, rfl, _⟩ := h; rfl) | (obtain ⟨_, _, _, _, _, _, _, _, _, _, _, _, _, rfl, _⟩ := h; rfl)
theorem len_u_law_wide (ds : List D) (M : Store) (Q : DK) (h : sp_u_law_wide ds M Q) : ds.length = 2 := by
  first | (obtain ⟨rfl, _⟩ := h; rfl) | (obtain ⟨_, rfl, _⟩ := h; rfl) | (obtain ⟨_, _, rfl, _⟩ := h; rfl) | (obtain ⟨_, _, _, rfl, _⟩ := h; rfl) | (obtain ⟨_, _, _, _, rfl, _⟩ := h; rfl) | (obtain ⟨_, _, _, _, _, rfl, _⟩ := h; rfl) | (obtain ⟨_, _, _, _, _, _, rfl, _⟩ := h; rfl) | (obtain ⟨_, _, _, _, _, _, _, rfl, _⟩ := h; rfl) | (obtain ⟨_, _, _, _, _, _, _, _, rfl, _⟩ := h; rfl) | (obtain ⟨_, _, _, _, _, _, _, _, _, rfl, _⟩ := h; rfl) | (obtain ⟨_, _, _, _, _, _, _, _, _, _, rfl, _⟩ := h; rfl) | (obtain ⟨_, _, _, _, _, _, _, _, _, _, _, rfl, _⟩ := h; rfl) | (obtain ⟨_, _, _, _, _, _, _, _, _, _, _, _, rfl, _⟩ := h; rfl) | (obtain ⟨_, _, _, _, _, _, _, _, _, _, _, _, _, rfl, _⟩ := h; rfl)
theorem len_u_law_rules (ds : List D) (M : Store) (Q : DK) (h : sp_u_law_rules ds M Q) : ds.length = 4 := by
  first | (obtain ⟨rfl, _⟩ := h; rfl) | (obtain ⟨_, rfl, _⟩ := h; rfl) | (obtain ⟨_, _, rfl, _⟩ := h; rfl) | (obtain ⟨_, _, _, rfl, _⟩ := h; rfl) | (obtain ⟨_, _, _, _, rfl, _⟩ := h; rfl) | (obtain ⟨_, _, _, _, _, rfl, _⟩ := h; rfl) | (obtain ⟨_, _, _, _, _, _, rfl, _⟩ := h; rfl) | (obtain ⟨_, _, _, _, _, _, _, rfl, _⟩ := h; rfl) | (obtain ⟨_, _, _, _, _, _, _, _, rfl, _⟩ := h; rfl) | (obtain ⟨_, _, _, _, _, _, _, _, _, rfl, _⟩ := h; rfl) | (obtain ⟨_, _, _, _, _, _, _, _, _, _, rfl, _⟩ := h; rfl) | (obtain ⟨_, _, _, _, _, _, _, _, _, _, _, rfl, _⟩ := h; rfl) | (obtain ⟨_, _, _, _, _, _, _, _, _, _, _, _, rfl, _⟩ := h; rfl) | (obtain ⟨_, _, _, _, _, _, _, _, _, _, _, _, _, rfl, _⟩ := h; rfl)
theorem len_train_joins (ds : List D) (M : Store) (Q : DK) (h : sp_train_joins ds M Q) : ds.length = 4 := by
  first | (obtain ⟨rfl, _⟩ := h; rfl) | (obtain ⟨_, rfl, _⟩ := h; rfl) | (obtain ⟨_, _, rfl, _⟩ := h; rfl) | (obtain ⟨_, _, _, rfl, _⟩ := h; rfl) | (obtain ⟨_, _, _, _, rfl, _⟩ := h; rfl) | (obtain ⟨_, _, _, _, _, rfl, _⟩ := h; rfl) | (obtain ⟨_, _, _, _, _, _, rfl, _⟩ := h; rfl) | (obtain ⟨_, _, _, _, _, _, _, rfl, _⟩ := h; rfl) | (obtain ⟨_, _, _, _, _, _, _, _, rfl, _⟩ := h; rfl) | (obtain ⟨_, _, _, _, _, _, _, _, _, rfl, _⟩ := h; rfl) | (obtain ⟨_, _, _, _, _, _, _, _, _, _, rfl, _⟩ := h; rfl) | (obtain ⟨_, _, _, _, _, _, _, _, _, _, _, rfl, _⟩ := h; rfl) | (obtain ⟨_, _, _, _, _, _, _, _, _, _, _, _, rfl, _⟩ := h; rfl) | (obtain ⟨_, _, _, _, _, _, _, _, _, _, _, _, _, rfl, _⟩ := h; rfl)
theorem len_margin_of (ds : List D) (M : Store) (Q : DK) (h : sp_margin_of ds M Q) : ds.length = 4 := by
  first | (obtain ⟨rfl, _⟩ := h; rfl) | (obtain ⟨_, rfl, _⟩ := h; rfl) | (obtain ⟨_, _, rfl, _⟩ := h; rfl) | (obtain ⟨_, _, _, rfl, _⟩ := h; rfl) | (obtain ⟨_, _, _, _, rfl, _⟩ := h; rfl) | (obtain ⟨_, _, _, _, _, rfl, _⟩ := h; rfl) | (obtain ⟨_, _, _, _, _, _, rfl, _⟩ := h; rfl) | (obtain ⟨_, _, _, _, _, _, _, rfl, _⟩ := h; rfl) | (obtain ⟨_, _, _, _, _, _, _, _, rfl, _⟩ := h; rfl) | (obtain ⟨_, _, _, _, _, _, _, _, _, rfl, _⟩ := h; rfl) | (obtain ⟨_, _, _, _, _, _, _, _, _, _, rfl, _⟩ := h; rfl) | (obtain ⟨_, _, _, _, _, _, _, _, _, _, _, rfl, _⟩ := h; rfl) | (obtain ⟨_, _, _, _, _, _, _, _, _, _, _, _, rfl, _⟩ := h; rfl) | (obtain ⟨_, _, _, _, _, _, _, _, _, _, _, _, _, rfl, _⟩ := h; rfl)
theorem len_u_law_corpus (ds : List D) (M : Store) (Q : DK) (h : sp_u_law_corpus ds M Q) : ds.length = 4 := by
  first | (obtain ⟨rfl, _⟩ := h; rfl) | (obtain ⟨_, rfl, _⟩ := h; rfl) | (obtain ⟨_, _, rfl, _⟩ := h; rfl) | (obtain ⟨_, _, _, rfl, _⟩ := h; rfl) | (obtain ⟨_, _, _, _, rfl, _⟩ := h; rfl) | (obtain ⟨_, _, _, _, _, rfl, _⟩ := h; rfl) | (obtain ⟨_, _, _, _, _, _, rfl, _⟩ := h; rfl) | (obtain ⟨_, _, _, _, _, _, _, rfl, _⟩ := h; rfl) | (obtain ⟨_, _, _, _, _, _, _, _, rfl, _⟩ := h; rfl) | (obtain ⟨_, _, _, _, _, _, _, _, _, rfl, _⟩ := h; rfl) | (obtain ⟨_, _, _, _, _, _, _, _, _, _, rfl, _⟩ := h; rfl) | (obtain ⟨_, _, _, _, _, _, _, _, _, _, _, rfl, _⟩ := h; rfl) | (obtain ⟨_, _, _, _, _, _, _, _, _, _, _, _, rfl, _⟩ := h; rfl) | (obtain ⟨_, _, _, _, _, _, _, _, _, _, _, _, _, rfl, _⟩ := h; rfl)
theorem len_u_law_trains (ds : List D) (M : Store) (Q : DK) (h : sp_u_law_trains ds M Q) : ds.length = 6 := by
  first | (obtain ⟨rfl, _⟩ := h; rfl) | (obtain ⟨_, rfl, _⟩ := h; rfl) | (obtain ⟨_, _, rfl, _⟩ := h; rfl) | (obtain ⟨_, _, _, rfl, _⟩ := h; rfl) | (obtain ⟨_, _, _, _, rfl, _⟩ := h; rfl) | (obtain ⟨_, _, _, _, _, rfl, _⟩ := h; rfl) | (obtain ⟨_, _, _, _, _, _, rfl, _⟩ := h; rfl) | (obtain ⟨_, _, _, _, _, _, _, rfl, _⟩ := h; rfl) | (obtain ⟨_, _, _, _, _, _, _, _, rfl, _⟩ := h; rfl) | (obtain ⟨_, _, _, _, _, _, _, _, _, rfl, _⟩ := h; rfl) | (obtain ⟨_, _, _, _, _, _, _, _, _, _, rfl, _⟩ := h; rfl) | (obtain ⟨_, _, _, _, _, _, _, _, _, _, _, rfl, _⟩ := h; rfl) | (obtain ⟨_, _, _, _, _, _, _, _, _, _, _, _, rfl, _⟩ := h; rfl) | (obtain ⟨_, _, _, _, _, _, _, _, _, _, _, _, _, rfl, _⟩ := h; rfl)
theorem len_u_law_is (ds : List D) (M : Store) (Q : DK) (h : sp_u_law_is ds M Q) : ds.length = 6 := by
  first | (obtain ⟨rfl, _⟩ := h; rfl) | (obtain ⟨_, rfl, _⟩ := h; rfl) | (obtain ⟨_, _, rfl, _⟩ := h; rfl) | (obtain ⟨_, _, _, rfl, _⟩ := h; rfl) | (obtain ⟨_, _, _, _, rfl, _⟩ := h; rfl) | (obtain ⟨_, _, _, _, _, rfl, _⟩ := h; rfl) | (obtain ⟨_, _, _, _, _, _, rfl, _⟩ := h; rfl) | (obtain ⟨_, _, _, _, _, _, _, rfl, _⟩ := h; rfl) | (obtain ⟨_, _, _, _, _, _, _, _, rfl, _⟩ := h; rfl) | (obtain ⟨_, _, _, _, _, _, _, _, _, rfl, _⟩ := h; rfl) | (obtain ⟨_, _, _, _, _, _, _, _, _, _, rfl, _⟩ := h; rfl) | (obtain ⟨_, _, _, _, _, _, _, _, _, _, _, rfl, _⟩ := h; rfl) | (obtain ⟨_, _, _, _, _, _, _, _, _, _, _, _, rfl, _⟩ := h; rfl) | (obtain ⟨_, _, _, _, _, _, _, _, _, _, _, _, _, rfl, _⟩ := h; rfl)
theorem len_u_law_right (ds : List D) (M : Store) (Q : DK) (h : sp_u_law_right ds M Q) : ds.length = 5 := by
  first | (obtain ⟨rfl, _⟩ := h; rfl) | (obtain ⟨_, rfl, _⟩ := h; rfl) | (obtain ⟨_, _, rfl, _⟩ := h; rfl) | (obtain ⟨_, _, _, rfl, _⟩ := h; rfl) | (obtain ⟨_, _, _, _, rfl, _⟩ := h; rfl) | (obtain ⟨_, _, _, _, _, rfl, _⟩ := h; rfl) | (obtain ⟨_, _, _, _, _, _, rfl, _⟩ := h; rfl) | (obtain ⟨_, _, _, _, _, _, _, rfl, _⟩ := h; rfl) | (obtain ⟨_, _, _, _, _, _, _, _, rfl, _⟩ := h; rfl) | (obtain ⟨_, _, _, _, _, _, _, _, _, rfl, _⟩ := h; rfl) | (obtain ⟨_, _, _, _, _, _, _, _, _, _, rfl, _⟩ := h; rfl) | (obtain ⟨_, _, _, _, _, _, _, _, _, _, _, rfl, _⟩ := h; rfl) | (obtain ⟨_, _, _, _, _, _, _, _, _, _, _, _, rfl, _⟩ := h; rfl) | (obtain ⟨_, _, _, _, _, _, _, _, _, _, _, _, _, rfl, _⟩ := h; rfl)
theorem len_u_law_sure (ds : List D) (M : Store) (Q : DK) (h : sp_u_law_sure ds M Q) : ds.length = 1 := by
  first | (obtain ⟨rfl, _⟩ := h; rfl) | (obtain ⟨_, rfl, _⟩ := h; rfl) | (obtain ⟨_, _, rfl, _⟩ := h; rfl) | (obtain ⟨_, _, _, rfl, _⟩ := h; rfl) | (obtain ⟨_, _, _, _, rfl, _⟩ := h; rfl) | (obtain ⟨_, _, _, _, _, rfl, _⟩ := h; rfl) | (obtain ⟨_, _, _, _, _, _, rfl, _⟩ := h; rfl) | (obtain ⟨_, _, _, _, _, _, _, rfl, _⟩ := h; rfl) | (obtain ⟨_, _, _, _, _, _, _, _, rfl, _⟩ := h; rfl) | (obtain ⟨_, _, _, _, _, _, _, _, _, rfl, _⟩ := h; rfl) | (obtain ⟨_, _, _, _, _, _, _, _, _, _, rfl, _⟩ := h; rfl) | (obtain ⟨_, _, _, _, _, _, _, _, _, _, _, rfl, _⟩ := h; rfl) | (obtain ⟨_, _, _, _, _, _, _, _, _, _, _, _, rfl, _⟩ := h; rfl) | (obtain ⟨_, _, _, _, _, _, _, _, _, _, _, _, _, rfl, _⟩ := h; rfl)
theorem len_law (ds : List D) (M : Store) (Q : DK) (h : sp_law ds M Q) : ds.length = 1 := by
  first | (obtain ⟨rfl, _⟩ := h; rfl) | (obtain ⟨_, rfl, _⟩ := h; rfl) | (obtain ⟨_, _, rfl, _⟩ := h; rfl) | (obtain ⟨_, _, _, rfl, _⟩ := h; rfl) | (obtain ⟨_, _, _, _, rfl, _⟩ := h; rfl) | (obtain ⟨_, _, _, _, _, rfl, _⟩ := h; rfl) | (obtain ⟨_, _, _, _, _, _, rfl, _⟩ := h; rfl) | (obtain ⟨_, _, _, _, _, _, _, rfl, _⟩ := h; rfl) | (obtain ⟨_, _, _, _, _, _, _, _, rfl, _⟩ := h; rfl) | (obtain ⟨_, _, _, _, _, _, _, _, _, rfl, _⟩ := h; rfl) | (obtain ⟨_, _, _, _, _, _, _, _, _, _, rfl, _⟩ := h; rfl) | (obtain ⟨_, _, _, _, _, _, _, _, _, _, _, rfl, _⟩ := h; rfl) | (obtain ⟨_, _, _, _, _, _, _, _, _, _, _, _, rfl, _⟩ := h; rfl) | (obtain ⟨_, _, _, _, _, _, _, _, _, _, _, _, _, rfl, _⟩ := h; rfl)
end K

set_option Elab.async false
set_option linter.all false
set_option maxRecDepth 100000
set_option maxHeartbeats 4000000
/-! printed by gen.py: the derivations -/
namespace K
open PySem L2 DL
open PyProof.Rows hiding St signs inR

def top (i : Nat) : Stmt := PySem.Challenge.pw_seamsight_k88_whole_margins.main.body.getD i (.Pass ⟨0, 0, 0, 0⟩)

structure Is_Margin (K : PySem.W.Frag) (C : Addr) : Prop where
  cl : Cls K C
  n_greatest : NoAttr K C "greatest"
  n_least : NoAttr K C "least"

structure Txt (mg : Str → Option Value) : Prop where
  abs : mg "abs" = none
  bool : mg "bool" = none
  enumerate : mg "enumerate" = none
  int : mg "int" = none
  isinstance : mg "isinstance" = none
  len : mg "len" = none
  list : mg "list" = none
  max : mg "max" = none
  range : mg "range" = none
  set : mg "set" = none
  sorted : mg "sorted" = none
  tuple : mg "tuple" = none
  zip : mg "zip" = none

section
variable {P : Program} {w : World} {K : PySem.W.Frag} {mg : Str → Option Value} {base : Heap}

abbrev st_joined_once : Stmt := top 3
def n_joined_once : List Str := ["pieces", "left", "right", "told", "at"]
theorem sc_joined_once : FnScope n_joined_once ["pieces", "left", "right"] (defScope st_joined_once) := ⟨rfl, rfl, rfl, by decide +kernel, rfl, by decide +kernel, by decide +kernel⟩

theorem mk_joined_once {k : Nat} {sp : DSp} (T : Txt mg) {f : Addr} {fd : FuncData} (F : Fun K "joined_once" "joined_once" st_joined_once f fd) (len : ∀ ds M Q, sp ds M Q → ds.length = 3)
    (data : ∀ ds M Q, sp ds M Q → t_joined_once (endsD M Q) (startD 5 ds) M) : FnOk P w K mg base CX0 (k + 1) f fd ["pieces", "left", "right"] (toSp ⟨P, w, K⟩ sp) :=
  fd_mk F sc_joined_once len ⟨t_joined_once, fun cdv A outer s H E hr => by
    have hu := hr.units
    have hp := @PassesOwn.never
    exact
    (dss_cons (ds_set (i := 3) sc_joined_once.nd rfl (by first | exact Or.inl rfl | exact Or.inr rfl) (de_lstM da_nil))
    (dss_cons (ds_set (i := 4) sc_joined_once.nd rfl (by first | exact Or.inl rfl | exact Or.inr rfl) de_int)
    (dss_cons (ds_while hp (dt_cmpX ox_lt rfl (de_var 4) (de_callB cx_len (by rfl) T.len (by rfl) (da_cons (de_var 0) da_nil)))
      (dss_one (ds_if (dw_and (dt_cmpX (ox_eq hu) rfl (de_ix hu (de_var 0) (de_var 4) fun _ _ => rfl) (de_var 1)) (dw_and (dt_cmpX ox_lt rfl (de_opX ox_add (de_var 4) de_int) (de_callB cx_len (by rfl) T.len (by rfl) (da_cons (de_var 0) da_nil))) (dw_and1 (dt_cmpX (ox_eq hu) rfl (de_ix hu (de_var 0) (de_opX ox_add (de_var 4) de_int) fun _ _ => rfl) (de_var 2))))).dt
        (dss_cons (ds_expr (de_meth PySem.F.plainAttrs_list PySem.F.slot_list_append PySem.F.type_list_append mx_append (de_var 3) (da_cons (de_opX ox_add (de_var 1) (de_var 2)) da_nil)))
        (dss_one (ds_augX (i := 4) sc_joined_once.nd rfl (by first | exact Or.inl rfl | exact Or.inr rfl) ox_iadd de_int)))
        (dss_cons (ds_expr (de_meth PySem.F.plainAttrs_list PySem.F.slot_list_append PySem.F.type_list_append mx_append (de_var 3) (da_cons (de_ix hu (de_var 0) (de_var 4) fun _ _ => rfl) da_nil)))
        (dss_one (ds_augX (i := 4) sc_joined_once.nd rfl (by first | exact Or.inl rfl | exact Or.inr rfl) ox_iadd de_int))))))
    (dss_one (ds_ret (de_var 3)))))), data⟩

abbrev st_pair_counts : Stmt := top 5
def n_pair_counts : List Str := ["rows", "counts", "taken", "found", "pieces", "count", "left", "right"]
theorem sc_pair_counts : FnScope n_pair_counts ["rows", "counts", "taken"] (defScope st_pair_counts) := ⟨rfl, rfl, rfl, by decide +kernel, rfl, by decide +kernel, by decide +kernel⟩

theorem mk_pair_counts {k : Nat} {sp : DSp} (T : Txt mg) {f : Addr} {fd : FuncData} (F : Fun K "pair_counts" "pair_counts" st_pair_counts f fd) (len : ∀ ds M Q, sp ds M Q → ds.length = 3)
    (data : ∀ ds M Q, sp ds M Q → t_pair_counts (endsD M Q) (startD 8 ds) M) : FnOk P w K mg base CX0 (k + 1) f fd ["rows", "counts", "taken"] (toSp ⟨P, w, K⟩ sp) :=
  fd_mk F sc_pair_counts len ⟨t_pair_counts, fun cdv A outer s H E hr => by
    have hu := hr.units
    have hp := @PassesOwn.never
    exact
    (dss_cons (ds_set (i := 3) sc_pair_counts.nd rfl (by first | exact Or.inl rfl | exact Or.inr rfl) de_newN)
    (dss_cons (ds_for hp rfl (di_zip (by rfl) T.zip (da_cons (de_var 0) (da_cons (de_var 1) da_nil))) (dg_seq (n := 2) rfl (dgs_cons (dg_name (i := 4) sc_pair_counts.nd rfl (by first | exact Or.inl rfl | exact Or.inr rfl)) (dgs_cons (dg_name (i := 5) sc_pair_counts.nd rfl (by first | exact Or.inl rfl | exact Or.inr rfl)) dgs_nil)))
      (dss_one (ds_for hp rfl (di_zip (by rfl) T.zip (da_cons (de_var 4) (da_cons (de_slice (de_var 4) (do_some de_int) do_none) da_nil))) (dg_seq (n := 2) rfl (dgs_cons (dg_name (i := 6) sc_pair_counts.nd rfl (by first | exact Or.inl rfl | exact Or.inr rfl)) (dgs_cons (dg_name (i := 7) sc_pair_counts.nd rfl (by first | exact Or.inl rfl | exact Or.inr rfl)) dgs_nil)))
        (dss_one (ds_if (dt_cmpX (ox_notInD hu) rfl (de_opX ox_add (de_var 6) (de_var 7)) (de_var 2))
          (dss_one (ds_asg (de_opX ox_add (de_meth PySem.F.plainAttrs_dict PySem.F.slot_dict_get PySem.F.type_dict_get (mx_get hu) (de_var 3) (da_cons (de_tup (da_cons (de_var 6) (da_cons (de_var 7) da_nil))) (da_cons de_int da_nil))) (de_var 5)) (dg_sub hu (de_var 3) (de_tup (da_cons (de_var 6) (da_cons (de_var 7) da_nil))))))
          dss_nil)))))
    (dss_one (ds_ret (de_var 3))))), data⟩

abbrev st_chosen_pair : Stmt := top 6
def n_chosen_pair : List Str := ["found", "best", "most", "pair"]
theorem sc_chosen_pair : FnScope n_chosen_pair ["found"] (defScope st_chosen_pair) := ⟨rfl, rfl, rfl, by decide +kernel, rfl, by decide +kernel, by decide +kernel⟩

theorem mk_chosen_pair {k : Nat} {sp : DSp} (T : Txt mg) {f : Addr} {fd : FuncData} (F : Fun K "chosen_pair" "chosen_pair" st_chosen_pair f fd) (len : ∀ ds M Q, sp ds M Q → ds.length = 1)
    (data : ∀ ds M Q, sp ds M Q → t_chosen_pair (endsD M Q) (startD 4 ds) M) : FnOk P w K mg base CX0 (k + 1) f fd ["found"] (toSp ⟨P, w, K⟩ sp) :=
  fd_mk F sc_chosen_pair len ⟨t_chosen_pair, fun cdv A outer s H E hr => by
    have hu := hr.units
    have hp := @PassesOwn.never
    exact
    (dss_cons (ds_set (i := 1) sc_chosen_pair.nd rfl (by first | exact Or.inl rfl | exact Or.inr rfl) de_non)
    (dss_cons (ds_set (i := 2) sc_chosen_pair.nd rfl (by first | exact Or.inl rfl | exact Or.inr rfl) de_int)
    (dss_cons (ds_for hp rfl (di_any (de_callB (cx_sorted rfl hu) (by rfl) T.sorted (by rfl) (da_cons (de_var 0) da_nil))) (dg_name (i := 3) sc_chosen_pair.nd rfl (by first | exact Or.inl rfl | exact Or.inr rfl))
      (dss_one (ds_if (dt_cmpX ox_gt rfl (de_ix hu (de_var 0) (de_var 3) fun _ _ => rfl) (de_var 2))
        (dss_cons (ds_set (i := 1) sc_chosen_pair.nd rfl (by first | exact Or.inl rfl | exact Or.inr rfl) (de_var 3))
        (dss_one (ds_set (i := 2) sc_chosen_pair.nd rfl (by first | exact Or.inl rfl | exact Or.inr rfl) (de_ix hu (de_var 0) (de_var 3) fun _ _ => rfl))))
        dss_nil)))
    (dss_one (ds_ret (de_var 1)))))), data⟩

abbrev st_trained_steps : Stmt := top 7
def n_trained_steps : List Str := ["corpus", "steps", "rows", "counts", "taken", "told", "_", "found", "pair", "text", "count", "pieces"]
theorem sc_trained_steps : FnScope n_trained_steps ["corpus", "steps"] (defScope st_trained_steps) := ⟨rfl, rfl, rfl, by decide +kernel, rfl, by decide +kernel, by decide +kernel⟩

theorem mk_trained_steps {k : Nat} {sp : DSp} (T : Txt mg) {s_pair_counts : DSp} {k_pair_counts : Nat} (F_pair_counts : Def P w K mg base "pair_counts" k_pair_counts ["rows", "counts", "taken"] s_pair_counts) (h_pair_counts : k_pair_counts ≤ k) {s_chosen_pair : DSp} {k_chosen_pair : Nat} (F_chosen_pair : Def P w K mg base "chosen_pair" k_chosen_pair ["found"] s_chosen_pair) (h_chosen_pair : k_chosen_pair ≤ k) {s_joined_once : DSp} {k_joined_once : Nat} (F_joined_once : Def P w K mg base "joined_once" k_joined_once ["pieces", "left", "right"] s_joined_once) (h_joined_once : k_joined_once ≤ k) {f : Addr} {fd : FuncData} (F : Fun K "trained_steps" "trained_steps" st_trained_steps f fd) (len : ∀ ds M Q, sp ds M Q → ds.length = 2)
    (data : ∀ ds M Q, sp ds M Q → t_trained_steps s_pair_counts s_chosen_pair s_joined_once (endsD M Q) (startD 12 ds) M) : FnOk P w K mg base CX0 (k + 1) f fd ["corpus", "steps"] (toSp ⟨P, w, K⟩ sp) :=
  fd_mk F sc_trained_steps len ⟨t_trained_steps s_pair_counts s_chosen_pair s_joined_once, fun cdv A outer s H E hr => by
    have hu := hr.units
    have hp := @PassesOwn.never
    exact
    (dss_cons (ds_setLc (i := 2) rfl sc_trained_steps.nd rfl rfl (sw_true rfl rfl rfl (by decide +kernel)) (di_any (de_var 0)) (own := [("text", 9), ("count", 10)]) (sh := (.many [9, 10])) (blkOk_by (N := n_trained_steps) (by first | decide +kernel | kernel_rfl)) (by decide) (fun _ _ _ _ _ => (pg_tup rfl (pgs_cons (pg_name (i := 9) sc_trained_steps.nd rfl (Or.inl rfl)) (pgs_cons (pg_name (i := 10) sc_trained_steps.nd rfl (Or.inl rfl)) pgs_nil)))) (fun _ _ _ _ _ => dts_nil) (fun _ _ _ _ _ => (de_callTy (cx_list rfl) (by rfl) T.list (by rfl) (da_cons (de_var 9) da_nil))))
    (dss_cons (ds_setLc (i := 3) rfl sc_trained_steps.nd rfl rfl (sw_true rfl rfl rfl (by decide +kernel)) (di_any (de_var 0)) (own := [("text", 9), ("count", 10)]) (sh := (.many [9, 10])) (blkOk_by (N := n_trained_steps) (by first | decide +kernel | kernel_rfl)) (by decide) (fun _ _ _ _ _ => (pg_tup rfl (pgs_cons (pg_name (i := 9) sc_trained_steps.nd rfl (Or.inl rfl)) (pgs_cons (pg_name (i := 10) sc_trained_steps.nd rfl (Or.inl rfl)) pgs_nil)))) (fun _ _ _ _ _ => dts_nil) (fun _ _ _ _ _ => (de_var 10)))
    (dss_cons (ds_set (i := 4) sc_trained_steps.nd rfl (by first | exact Or.inl rfl | exact Or.inr rfl) de_newK)
    (dss_cons (ds_set (i := 5) sc_trained_steps.nd rfl (by first | exact Or.inl rfl | exact Or.inr rfl) (de_lstM da_nil))
    (dss_cons (ds_for hp rfl (di_range1 (by rfl) T.range (da_cons (de_var 1) da_nil)) (dg_name (i := 6) sc_trained_steps.nd rfl (by first | exact Or.inl rfl | exact Or.inr rfl))
      (dss_cons (ds_set (i := 7) sc_trained_steps.nd rfl (by first | exact Or.inl rfl | exact Or.inr rfl) (de_call F_pair_counts (hr.mono h_pair_counts) (by rfl) (da_cons (de_var 2) (da_cons (de_var 3) (da_cons (de_var 4) da_nil)))))
      (dss_cons (ds_set (i := 8) sc_trained_steps.nd rfl (by first | exact Or.inl rfl | exact Or.inr rfl) (de_call F_chosen_pair (hr.mono h_chosen_pair) (by rfl) (da_cons (de_var 7) da_nil)))
      (dss_cons (ds_expr (de_meth PySem.F.plainAttrs_list PySem.F.slot_list_append PySem.F.type_list_append mx_append (de_var 5) (da_cons (de_tup (da_cons (de_var 8) (da_cons (de_var 7) da_nil))) da_nil)))
      (dss_cons (ds_if (dt_cmpX ox_isN rfl (de_var 8) de_non)
        (dss_one (ds_ret (de_var 5)))
        dss_nil)
      (dss_cons (ds_asg de_bl (dg_sub hu (de_var 4) (de_opX ox_add (de_ix hu (de_var 8) de_int fun _ _ => rfl) (de_ix hu (de_var 8) de_int fun _ _ => rfl))))
      (dss_one (ds_setLc (i := 2) rfl sc_trained_steps.nd rfl rfl (sw_true rfl rfl rfl (by decide +kernel)) (di_any (de_var 2)) (own := [("pieces", 11)]) (sh := (.one 11)) (blkOk_by (N := n_trained_steps) (by first | decide +kernel | kernel_rfl)) (by decide) (fun _ _ _ _ _ => (pg_name (i := 11) sc_trained_steps.nd rfl (Or.inl rfl))) (fun _ _ _ _ _ => dts_nil) (fun _ _ _ _ _ => (de_call F_joined_once (hr.mono h_joined_once) (by rfl) (da_cons (de_var 11) (da_cons (de_ix hu (de_var 8) de_int fun _ _ => rfl) (da_cons (de_ix hu (de_var 8) de_int fun _ _ => rfl) da_nil)))))))))))))
    (dss_one (ds_ret (de_var 5)))))))), data⟩

abbrev st_train_joins : Stmt := top 8
def n_train_joins : List Str := ["letters", "name", "corpus", "steps", "rules", "pair", "found"]
theorem sc_train_joins : FnScope n_train_joins ["letters", "name", "corpus", "steps"] (defScope st_train_joins) := ⟨rfl, rfl, rfl, by decide +kernel, rfl, by decide +kernel, by decide +kernel⟩

theorem mk_train_joins {k : Nat} {sp : DSp} (T : Txt mg) {s_trained_steps : DSp} {k_trained_steps : Nat} (F_trained_steps : Def P w K mg base "trained_steps" k_trained_steps ["corpus", "steps"] s_trained_steps) (h_trained_steps : k_trained_steps ≤ k) {f : Addr} {fd : FuncData} (F : Fun K "train_joins" "train_joins" st_train_joins f fd) (len : ∀ ds M Q, sp ds M Q → ds.length = 4)
    (data : ∀ ds M Q, sp ds M Q → t_train_joins s_trained_steps (endsD M Q) (startD 7 ds) M) : FnOk P w K mg base CX0 (k + 1) f fd ["letters", "name", "corpus", "steps"] (toSp ⟨P, w, K⟩ sp) :=
  fd_mk F sc_train_joins len ⟨t_train_joins s_trained_steps, fun cdv A outer s H E hr => by
    have hu := hr.units
    have hp := @PassesOwn.never
    exact
    (dss_cons (ds_setLc (i := 4) rfl sc_train_joins.nd rfl rfl (sw_true rfl rfl rfl (by decide +kernel)) (di_any (de_call F_trained_steps (hr.mono h_trained_steps) (by rfl) (da_cons (de_var 2) (da_cons (de_var 3) da_nil)))) (own := [("pair", 5), ("found", 6)]) (sh := (.many [5, 6])) (blkOk_by (N := n_train_joins) (by first | decide +kernel | kernel_rfl)) (by decide) (fun _ _ _ _ _ => (pg_tup rfl (pgs_cons (pg_name (i := 5) sc_train_joins.nd rfl (Or.inl rfl)) (pgs_cons (pg_name (i := 6) sc_train_joins.nd rfl (Or.inl rfl)) pgs_nil)))) (fun _ _ _ _ _ => (dts_one (dt_cmpX ox_notN rfl (de_var 5) de_non))) (fun _ _ _ _ _ => (de_tup (da_cons (de_ix hu (de_var 5) de_int fun _ _ => rfl) (da_cons (de_ix hu (de_var 5) de_int fun _ _ => rfl) (da_cons (de_var 1) da_nil))))))
    (dss_one (ds_ret (de_tup (da_cons de_str (da_cons (de_var 0) (da_cons (de_var 1) (da_cons (de_callTy cx_tuple (by rfl) T.tuple (by rfl) (da_cons (de_var 4) da_nil)) da_nil)))))))), data⟩

abbrev st_narrow_step : Stmt := top 11
def n_narrow_step : List Str := ["margin", "pair", "slopes", "bases", "other", "gap"]
theorem sc_narrow_step : FnScope n_narrow_step ["margin", "pair", "slopes", "bases"] (defScope st_narrow_step) := ⟨rfl, rfl, rfl, by decide +kernel, rfl, by decide +kernel, by decide +kernel⟩

theorem mk_narrow_step {k : Nat} {sp : DSp} (T : Txt mg) {C_Margin : Addr} (I_Margin : Is_Margin K C_Margin) {s_Margin_narrow : DSp} {k_Margin_narrow : Nat} (F_Margin_narrow : MDef P w K mg base C_Margin "narrow" k_Margin_narrow ["self", "slope", "base"] s_Margin_narrow) (h_Margin_narrow : k_Margin_narrow ≤ k) {f : Addr} {fd : FuncData} (F : Fun K "narrow_step" "narrow_step" st_narrow_step f fd) (len : ∀ ds M Q, sp ds M Q → ds.length = 4)
    (data : ∀ ds M Q, sp ds M Q → t_narrow_step C_Margin s_Margin_narrow (endsD M Q) (startD 6 ds) M) : FnOk P w K mg base CX0 (k + 1) f fd ["margin", "pair", "slopes", "bases"] (toSp ⟨P, w, K⟩ sp) :=
  fd_mk F sc_narrow_step len ⟨t_narrow_step C_Margin s_Margin_narrow, fun cdv A outer s H E hr => by
    have hu := hr.units
    have hp := @PassesOwn.never
    exact
    (dss_one (ds_for hp rfl (di_keysN (de_var 2)) (dg_name (i := 4) sc_narrow_step.nd rfl (by first | exact Or.inl rfl | exact Or.inr rfl))
      (dss_one (ds_if (dt_cmpX ox_isN rfl (de_var 1) de_non)
        (dss_one (ds_expr (de_methX I_Margin.cl F_Margin_narrow (hr.mono h_Margin_narrow) (de_var 0) (da_cons (de_unX ux_neg (de_ix hu (de_var 2) (de_var 4) fun _ _ => rfl)) (da_cons (de_unX ux_neg (de_ix hu (de_var 3) (de_var 4) fun _ _ => rfl)) da_nil)))))
        (dss_one (ds_if (dt_cmpX (ox_eq hu) rfl (de_var 4) (de_var 1))
          (dss_one (ds_expr (de_methX I_Margin.cl F_Margin_narrow (hr.mono h_Margin_narrow) (de_var 0) (da_cons (de_ix hu (de_var 2) (de_var 1) fun _ _ => rfl) (da_cons (de_opX ox_sub (de_ix hu (de_var 3) (de_var 1) fun _ _ => rfl) de_int) da_nil)))))
          (dss_cons (ds_set (i := 5) sc_narrow_step.nd rfl (by first | exact Or.inl rfl | exact Or.inr rfl) (de_if (dt_cmpX (ox_ltD hu) rfl (de_var 4) (de_var 1)) de_int de_int))
          (dss_one (ds_expr (de_methX I_Margin.cl F_Margin_narrow (hr.mono h_Margin_narrow) (de_var 0) (da_cons (de_opX ox_sub (de_ix hu (de_var 2) (de_var 1) fun _ _ => rfl) (de_ix hu (de_var 2) (de_var 4) fun _ _ => rfl)) (da_cons (de_opX ox_sub (de_opX ox_sub (de_ix hu (de_var 3) (de_var 1) fun _ _ => rfl) (de_ix hu (de_var 3) (de_var 4) fun _ _ => rfl)) (de_var 5)) da_nil)))))))))))), data⟩

abbrev st_margin_of : Stmt := top 12
def n_margin_of : List Str := ["letters", "corpus", "steps", "entry", "rows", "ones", "others", "taken", "margin", "pair", "_", "text", "count", "at", "pieces"]
theorem sc_margin_of : FnScope n_margin_of ["letters", "corpus", "steps", "entry"] (defScope st_margin_of) := ⟨rfl, rfl, rfl, by decide +kernel, rfl, by decide +kernel, by decide +kernel⟩

theorem mk_margin_of {k : Nat} {sp : DSp} (T : Txt mg) {C_Margin : Addr} (I_Margin : Is_Margin K C_Margin) {s_Margin___init__ : DSp} {k_Margin___init__ : Nat} (F_Margin___init__ : IDef P w K mg base C_Margin k_Margin___init__ ["self"] s_Margin___init__) (h_Margin___init__ : k_Margin___init__ + 1 ≤ k) (m_Margin : mg "Margin" = some (.ref C_Margin)) {s_trained_steps : DSp} {k_trained_steps : Nat} (F_trained_steps : Def P w K mg base "trained_steps" k_trained_steps ["corpus", "steps"] s_trained_steps) (h_trained_steps : k_trained_steps ≤ k) {s_narrow_step : DSp} {k_narrow_step : Nat} (F_narrow_step : Def P w K mg base "narrow_step" k_narrow_step ["margin", "pair", "slopes", "bases"] s_narrow_step) (h_narrow_step : k_narrow_step ≤ k) {s_pair_counts : DSp} {k_pair_counts : Nat} (F_pair_counts : Def P w K mg base "pair_counts" k_pair_counts ["rows", "counts", "taken"] s_pair_counts) (h_pair_counts : k_pair_counts ≤ k) {s_joined_once : DSp} {k_joined_once : Nat} (F_joined_once : Def P w K mg base "joined_once" k_joined_once ["pieces", "left", "right"] s_joined_once) (h_joined_once : k_joined_once ≤ k) {f : Addr} {fd : FuncData} (F : Fun K "margin_of" "margin_of" st_margin_of f fd) (len : ∀ ds M Q, sp ds M Q → ds.length = 4)
    (data : ∀ ds M Q, sp ds M Q → t_margin_of C_Margin s_Margin___init__ s_trained_steps s_narrow_step s_pair_counts s_joined_once (endsD M Q) (startD 15 ds) M) : FnOk P w K mg base CX0 (k + 1) f fd ["letters", "corpus", "steps", "entry"] (toSp ⟨P, w, K⟩ sp) :=
  fd_mk F sc_margin_of len ⟨t_margin_of C_Margin s_Margin___init__ s_trained_steps s_narrow_step s_pair_counts s_joined_once, fun cdv A outer s H E hr => by
    have hu := hr.units
    have hp := @PassesOwn.never
    exact
    (dss_cons (ds_setLc (i := 4) rfl sc_margin_of.nd rfl rfl (sw_true rfl rfl rfl (by decide +kernel)) (di_any (de_var 1)) (own := [("text", 11), ("count", 12)]) (sh := (.many [11, 12])) (blkOk_by (N := n_margin_of) (by first | decide +kernel | kernel_rfl)) (by decide) (fun _ _ _ _ _ => (pg_tup rfl (pgs_cons (pg_name (i := 11) sc_margin_of.nd rfl (Or.inl rfl)) (pgs_cons (pg_name (i := 12) sc_margin_of.nd rfl (Or.inl rfl)) pgs_nil)))) (fun _ _ _ _ _ => dts_nil) (fun _ _ _ _ _ => (de_callTy (cx_list rfl) (by rfl) T.list (by rfl) (da_cons (de_var 11) da_nil))))
    (dss_cons (ds_setLc (i := 5) rfl sc_margin_of.nd rfl rfl (sw_true rfl rfl rfl (by decide +kernel)) (di_range1 (by rfl) T.range (da_cons (de_callB cx_len (by rfl) T.len (by rfl) (da_cons (de_var 1) da_nil)) da_nil)) (own := [("at", 13)]) (sh := (.one 13)) (blkOk_by (N := n_margin_of) (by first | decide +kernel | kernel_rfl)) (by decide) (fun _ _ _ _ _ => (pg_name (i := 13) sc_margin_of.nd rfl (Or.inl rfl))) (fun _ _ _ _ _ => dts_nil) (fun _ _ _ _ _ => (de_if (dt_cmpX (ox_eq hu) rfl (de_var 13) (de_var 3)) de_int de_int)))
    (dss_cons (ds_setLc (i := 6) rfl sc_margin_of.nd rfl rfl (sw_true rfl rfl rfl (by decide +kernel)) (di_enumT (by rfl) T.enumerate (da_cons (de_var 1) da_nil)) (own := [("at", 13), ("pair", 9)]) (sh := (.many [13, 9])) (blkOk_by (N := n_margin_of) (by first | decide +kernel | kernel_rfl)) (by decide) (fun _ _ _ _ _ => (pg_tup rfl (pgs_cons (pg_name (i := 13) sc_margin_of.nd rfl (Or.inl rfl)) (pgs_cons (pg_name (i := 9) sc_margin_of.nd rfl (Or.inl rfl)) pgs_nil)))) (fun _ _ _ _ _ => dts_nil) (fun _ _ _ _ _ => (de_if (dt_cmpX (ox_eq hu) rfl (de_var 13) (de_var 3)) de_int (de_ix hu (de_var 9) de_int fun _ _ => rfl))))
    (dss_cons (ds_set (i := 7) sc_margin_of.nd rfl (by first | exact Or.inl rfl | exact Or.inr rfl) de_newK)
    (dss_cons (ds_set (i := 8) sc_margin_of.nd rfl (by first | exact Or.inl rfl | exact Or.inr rfl) (de_make0X F_Margin___init__ (hr.mono h_Margin___init__) (by rfl) m_Margin))
    (dss_cons (ds_for hp rfl (di_any (de_call F_trained_steps (hr.mono h_trained_steps) (by rfl) (da_cons (de_var 1) (da_cons (de_var 2) da_nil)))) (dg_seq (n := 2) rfl (dgs_cons (dg_name (i := 9) sc_margin_of.nd rfl (by first | exact Or.inl rfl | exact Or.inr rfl)) (dgs_cons (dg_name (i := 10) sc_margin_of.nd rfl (by first | exact Or.inl rfl | exact Or.inr rfl)) dgs_nil)))
      (dss_cons (ds_expr (de_call F_narrow_step (hr.mono h_narrow_step) (by rfl) (da_cons (de_var 8) (da_cons (de_var 9) (da_cons (de_call F_pair_counts (hr.mono h_pair_counts) (by rfl) (da_cons (de_var 4) (da_cons (de_var 5) (da_cons (de_var 7) da_nil)))) (da_cons (de_call F_pair_counts (hr.mono h_pair_counts) (by rfl) (da_cons (de_var 4) (da_cons (de_var 6) (da_cons (de_var 7) da_nil)))) da_nil))))))
      (dss_one (ds_if (dt_cmpX ox_notN rfl (de_var 9) de_non)
        (dss_cons (ds_asg de_bl (dg_sub hu (de_var 7) (de_opX ox_add (de_ix hu (de_var 9) de_int fun _ _ => rfl) (de_ix hu (de_var 9) de_int fun _ _ => rfl))))
        (dss_one (ds_setLc (i := 4) rfl sc_margin_of.nd rfl rfl (sw_true rfl rfl rfl (by decide +kernel)) (di_any (de_var 4)) (own := [("pieces", 14)]) (sh := (.one 14)) (blkOk_by (N := n_margin_of) (by first | decide +kernel | kernel_rfl)) (by decide) (fun _ _ _ _ _ => (pg_name (i := 14) sc_margin_of.nd rfl (Or.inl rfl))) (fun _ _ _ _ _ => dts_nil) (fun _ _ _ _ _ => (de_call F_joined_once (hr.mono h_joined_once) (by rfl) (da_cons (de_var 14) (da_cons (de_ix hu (de_var 9) de_int fun _ _ => rfl) (da_cons (de_ix hu (de_var 9) de_int fun _ _ => rfl) da_nil))))))))
        dss_nil))))
    (dss_one (ds_ret (de_tup (da_cons (de_fld I_Margin.cl I_Margin.n_least (de_var 8)) (da_cons (de_fld I_Margin.cl I_Margin.n_greatest (de_var 8)) da_nil))))))))))), data⟩

abbrev st_u_law_pool : Stmt := top 14
def n_u_law_pool : List Str := ["script", "great", "mixed", "cell", "size"]
theorem sc_u_law_pool : FnScope n_u_law_pool ["script"] (defScope st_u_law_pool) := ⟨rfl, rfl, rfl, by decide +kernel, rfl, by decide +kernel, by decide +kernel⟩

theorem mk_u_law_pool {k : Nat} {sp : DSp} (T : Txt mg) {f : Addr} {fd : FuncData} (F : Fun K "_law_pool" "_law_pool" st_u_law_pool f fd) (len : ∀ ds M Q, sp ds M Q → ds.length = 1)
    (data : ∀ ds M Q, sp ds M Q → t_u_law_pool (endsD M Q) (startD 5 ds) M) : FnOk P w K mg base CX0 (k + 1) f fd ["script"] (toSp ⟨P, w, K⟩ sp) :=
  fd_mk F sc_u_law_pool len ⟨t_u_law_pool, fun cdv A outer s H E hr => by
    have hu := hr.units
    have hp := @PassesOwn.never
    exact
    (dss_cons (ds_set (i := 1) sc_u_law_pool.nd rfl (by first | exact Or.inl rfl | exact Or.inr rfl) (de_lstM da_nil))
    (dss_cons (ds_set (i := 2) sc_u_law_pool.nd rfl (by first | exact Or.inl rfl | exact Or.inr rfl) (de_opX ox_add de_int (de_callB cx_len (by rfl) T.len (by rfl) (da_cons (de_var 0) da_nil))))
    (dss_cons (ds_for hp rfl (di_any (de_var 0)) (dg_name (i := 3) sc_u_law_pool.nd rfl (by first | exact Or.inl rfl | exact Or.inr rfl))
      (dss_cons (ds_set (i := 4) sc_u_law_pool.nd rfl (by first | exact Or.inl rfl | exact Or.inr rfl) (de_callB cx_abs (by rfl) T.abs (by rfl) (da_cons (de_var 3) da_nil)))
      (dss_cons (ds_if (dt_cmpX ox_ge rfl (de_var 4) (de_opX ox_pow de_int de_int))
        (dss_one (ds_expr (de_meth PySem.F.plainAttrs_list PySem.F.slot_list_append PySem.F.type_list_append mx_append (de_var 1) (da_cons (de_var 4) da_nil))))
        dss_nil)
      (dss_one (ds_set (i := 2) sc_u_law_pool.nd rfl (by first | exact Or.inl rfl | exact Or.inr rfl) (de_opX ox_mod (de_opX ox_add (de_opX ox_add (de_opX ox_add (de_opX ox_mul (de_callTy cx_int (by rfl) T.int (by rfl) (da_cons (de_var 2) da_nil)) de_int) (de_opX ox_mod (de_callTy cx_int (by rfl) T.int (by rfl) (da_cons (de_var 4) da_nil)) de_int)) (de_opX ox_mul de_int (de_callTy cx_int (by rfl) T.int (by rfl) (da_cons (de_cmpX ox_lt rfl (de_var 3) de_int) da_nil)))) de_int) de_int))))))
    (dss_one (ds_ret (de_lstM (da_cons (de_var 1) (da_cons de_int (da_cons (de_var 2) da_nil))))))))), data⟩

abbrev st_u_law_draw : Stmt := top 15
def n_u_law_draw : List Str := ["pool", "many", "great", "size", "mixed"]
theorem sc_u_law_draw : FnScope n_u_law_draw ["pool", "many"] (defScope st_u_law_draw) := ⟨rfl, rfl, rfl, by decide +kernel, rfl, by decide +kernel, by decide +kernel⟩

theorem mk_u_law_draw {k : Nat} {sp : DSp} (T : Txt mg) {f : Addr} {fd : FuncData} (F : Fun K "_law_draw" "_law_draw" st_u_law_draw f fd) (len : ∀ ds M Q, sp ds M Q → ds.length = 2)
    (data : ∀ ds M Q, sp ds M Q → t_u_law_draw (endsD M Q) (startD 5 ds) M) : FnOk P w K mg base CX0 (k + 1) f fd ["pool", "many"] (toSp ⟨P, w, K⟩ sp) :=
  fd_mk F sc_u_law_draw len ⟨t_u_law_draw, fun cdv A outer s H E hr => by
    have hu := hr.units
    have hp := @PassesOwn.never
    exact
    (dss_cons (ds_if (dt_cmpX ox_lt rfl (de_var 1) de_int)
      (dss_one (ds_ret de_int))
      dss_nil)
    (dss_cons (ds_set (i := 2) sc_u_law_draw.nd rfl (by first | exact Or.inl rfl | exact Or.inr rfl) (de_ix hu (de_var 0) de_int fun _ _ => rfl))
    (dss_cons (ds_if (dt_cmpX ox_lt rfl (de_ix hu (de_var 0) de_int fun _ _ => rfl) (de_callB cx_len (by rfl) T.len (by rfl) (da_cons (de_var 2) da_nil)))
      (dss_cons (ds_set (i := 3) sc_u_law_draw.nd rfl (by first | exact Or.inl rfl | exact Or.inr rfl) (de_callTy cx_int (by rfl) T.int (by rfl) (da_cons (de_ix hu (de_var 2) (de_ix hu (de_var 0) de_int fun _ _ => rfl) fun _ _ => rfl) da_nil)))
      (dss_cons (ds_asg (de_opX ox_fdiv (de_var 3) (de_var 1)) (dg_sub hu (de_var 2) (de_ix hu (de_var 0) de_int fun _ _ => rfl)))
      (dss_cons (ds_if (dt_cmpX ox_lt rfl (de_var 3) (de_var 1))
        (dss_one (ds_asg (de_opX ox_add (de_ix hu (de_var 0) de_int fun _ _ => rfl) de_int) (dg_sub hu (de_var 0) de_int)))
        dss_nil)
      (dss_one (ds_ret (de_opX ox_mod (de_callTy cx_int (by rfl) T.int (by rfl) (da_cons (de_var 3) da_nil)) (de_var 1)))))))
      dss_nil)
    (dss_cons (ds_set (i := 4) sc_u_law_draw.nd rfl (by first | exact Or.inl rfl | exact Or.inr rfl) (de_opX ox_mod (de_opX ox_add (de_opX ox_mul (de_callTy cx_int (by rfl) T.int (by rfl) (da_cons (de_ix hu (de_var 0) de_int fun _ _ => rfl) da_nil)) de_int) de_int) de_int))
    (dss_cons (ds_asg (de_var 4) (dg_sub hu (de_var 0) de_int))
    (dss_one (ds_ret (de_opX ox_mod (de_opX ox_fdiv (de_opX ox_mod (de_callTy cx_int (by rfl) T.int (by rfl) (da_cons (de_opX ox_add (de_opX ox_mul (de_var 4) de_int) (de_opX ox_fdiv (de_var 4) de_int)) da_nil)) de_int) de_int) (de_var 1))))))))), data⟩

abbrev st_u_law_letters : Stmt := top 16
def n_u_law_letters : List Str := ["pool", "many", "left", "picked", "lap"]
theorem sc_u_law_letters : FnScope n_u_law_letters ["pool", "many"] (defScope st_u_law_letters) := ⟨rfl, rfl, rfl, by decide +kernel, rfl, by decide +kernel, by decide +kernel⟩

theorem mk_u_law_letters {k : Nat} {sp : DSp} (T : Txt mg) {s_u_law_draw : DSp} {k_u_law_draw : Nat} (F_u_law_draw : Def P w K mg base "_law_draw" k_u_law_draw ["pool", "many"] s_u_law_draw) (h_u_law_draw : k_u_law_draw ≤ k) {f : Addr} {fd : FuncData} (F : Fun K "_law_letters" "_law_letters" st_u_law_letters f fd) (len : ∀ ds M Q, sp ds M Q → ds.length = 2)
    (data : ∀ ds M Q, sp ds M Q → t_u_law_letters s_u_law_draw (endsD M Q) (startD 5 ds) M) : FnOk P w K mg base CX0 (k + 1) f fd ["pool", "many"] (toSp ⟨P, w, K⟩ sp) :=
  fd_mk F sc_u_law_letters len ⟨t_u_law_letters s_u_law_draw, fun cdv A outer s H E hr => by
    have hu := hr.units
    have hp := @PassesOwn.never
    exact
    (dss_cons (ds_set (i := 2) sc_u_law_letters.nd rfl (by first | exact Or.inl rfl | exact Or.inr rfl) (de_callTy (cx_listM rfl) (by rfl) T.list (by rfl) (da_cons de_str da_nil)))
    (dss_cons (ds_set (i := 3) sc_u_law_letters.nd rfl (by first | exact Or.inl rfl | exact Or.inr rfl) (de_lstM da_nil))
    (dss_cons (ds_for hp rfl (di_range1 (by rfl) T.range (da_cons (de_var 1) da_nil)) (dg_name (i := 4) sc_u_law_letters.nd rfl (by first | exact Or.inl rfl | exact Or.inr rfl))
      (dss_one (ds_expr (de_meth PySem.F.plainAttrs_list PySem.F.slot_list_append PySem.F.type_list_append mx_append (de_var 3) (da_cons (de_meth PySem.F.plainAttrs_list PySem.F.slot_list_pop PySem.F.type_list_pop mx_popAt (de_var 2) (da_cons (de_call F_u_law_draw (hr.mono h_u_law_draw) (by rfl) (da_cons (de_var 0) (da_cons (de_callB cx_len (by rfl) T.len (by rfl) (da_cons (de_var 2) da_nil)) da_nil))) da_nil)) da_nil)))))
    (dss_one (ds_ret (de_meth PySem.F.plainAttrs_str PySem.F.slot_str_join PySem.F.type_str_join mx_join de_str (da_cons (de_callB (cx_sorted rfl hu) (by rfl) T.sorted (by rfl) (da_cons (de_var 3) da_nil)) da_nil))))))), data⟩

abbrev st_u_law_word : Stmt := top 17
def n_u_law_word : List Str := ["pool", "letters", "most", "many", "block", "lap"]
theorem sc_u_law_word : FnScope n_u_law_word ["pool", "letters", "most"] (defScope st_u_law_word) := ⟨rfl, rfl, rfl, by decide +kernel, rfl, by decide +kernel, by decide +kernel⟩

theorem mk_u_law_word {k : Nat} {sp : DSp} (T : Txt mg) {s_u_law_draw : DSp} {k_u_law_draw : Nat} (F_u_law_draw : Def P w K mg base "_law_draw" k_u_law_draw ["pool", "many"] s_u_law_draw) (h_u_law_draw : k_u_law_draw ≤ k) {f : Addr} {fd : FuncData} (F : Fun K "_law_word" "_law_word" st_u_law_word f fd) (len : ∀ ds M Q, sp ds M Q → ds.length = 3)
    (data : ∀ ds M Q, sp ds M Q → t_u_law_word s_u_law_draw (endsD M Q) (startD 6 ds) M) : FnOk P w K mg base CX0 (k + 1) f fd ["pool", "letters", "most"] (toSp ⟨P, w, K⟩ sp) :=
  fd_mk F sc_u_law_word len ⟨t_u_law_word s_u_law_draw, fun cdv A outer s H E hr => by
    have hu := hr.units
    have hp := @PassesOwn.never
    exact
    (dss_cons (ds_set (i := 3) sc_u_law_word.nd rfl (by first | exact Or.inl rfl | exact Or.inr rfl) (de_opX ox_add de_int (de_call F_u_law_draw (hr.mono h_u_law_draw) (by rfl) (da_cons (de_var 0) (da_cons (de_var 2) da_nil)))))
    (dss_cons (ds_set (i := 4) sc_u_law_word.nd rfl (by first | exact Or.inl rfl | exact Or.inr rfl) (de_meth PySem.F.plainAttrs_str PySem.F.slot_str_join PySem.F.type_str_join mx_join de_str (da_cons (de_lc rfl sc_u_law_word.nd (di_range1 (by rfl) T.range (da_cons (de_opX ox_add de_int (de_call F_u_law_draw (hr.mono h_u_law_draw) (by rfl) (da_cons (de_var 0) (da_cons de_int da_nil)))) da_nil)) (own := [("lap", 5)]) (sh := (.one 5)) (blkOk_by (N := n_u_law_word) (by first | decide +kernel | kernel_rfl)) (by decide) (fun _ _ _ _ _ => (pg_name (i := 5) sc_u_law_word.nd rfl (Or.inl rfl))) (fun _ _ _ _ _ => dts_nil) (fun _ _ _ _ _ => (de_ix hu (de_var 1) (de_call F_u_law_draw (hr.mono h_u_law_draw) (by rfl) (da_cons (de_var 0) (da_cons (de_callB cx_len (by rfl) T.len (by rfl) (da_cons (de_var 1) da_nil)) da_nil))) fun _ _ => rfl))) da_nil)))
    (dss_one (ds_ret (de_slice (de_opX ox_mul (de_var 4) (de_opX ox_add (de_opX ox_fdiv (de_var 3) (de_callB cx_len (by rfl) T.len (by rfl) (da_cons (de_var 4) da_nil))) de_int)) do_none (do_some (de_var 3))))))), data⟩

abbrev st_u_law_count : Stmt := top 18
def n_u_law_count : List Str := ["pool", "same", "pick"]
theorem sc_u_law_count : FnScope n_u_law_count ["pool", "same"] (defScope st_u_law_count) := ⟨rfl, rfl, rfl, by decide +kernel, rfl, by decide +kernel, by decide +kernel⟩

theorem mk_u_law_count {k : Nat} {sp : DSp} (T : Txt mg) {s_u_law_draw : DSp} {k_u_law_draw : Nat} (F_u_law_draw : Def P w K mg base "_law_draw" k_u_law_draw ["pool", "many"] s_u_law_draw) (h_u_law_draw : k_u_law_draw ≤ k) {f : Addr} {fd : FuncData} (F : Fun K "_law_count" "_law_count" st_u_law_count f fd) (len : ∀ ds M Q, sp ds M Q → ds.length = 2)
    (data : ∀ ds M Q, sp ds M Q → t_u_law_count s_u_law_draw (endsD M Q) (startD 3 ds) M) : FnOk P w K mg base CX0 (k + 1) f fd ["pool", "same"] (toSp ⟨P, w, K⟩ sp) :=
  fd_mk F sc_u_law_count len ⟨t_u_law_count s_u_law_draw, fun cdv A outer s H E hr => by
    have hu := hr.units
    have hp := @PassesOwn.never
    exact
    (dss_cons (ds_set (i := 2) sc_u_law_count.nd rfl (by first | exact Or.inl rfl | exact Or.inr rfl) (de_call F_u_law_draw (hr.mono h_u_law_draw) (by rfl) (da_cons (de_var 0) (da_cons de_int da_nil))))
    (dss_cons (ds_if (dt_cmpX (ox_eq hu) rfl (de_var 2) de_int)
      (dss_one (ds_ret de_int))
      dss_nil)
    (dss_cons (ds_if (dt_cmpX ox_lt rfl (de_var 2) de_int)
      (dss_one (ds_ret (de_var 1)))
      dss_nil)
    (dss_cons (ds_if (dt_cmpX (ox_eq hu) rfl (de_var 2) de_int)
      (dss_one (ds_ret (de_opX ox_sub (de_opX ox_pow de_int de_int) (de_call F_u_law_draw (hr.mono h_u_law_draw) (by rfl) (da_cons (de_var 0) (da_cons de_int da_nil))))))
      dss_nil)
    (dss_one (ds_ret (de_opX ox_add de_int (de_call F_u_law_draw (hr.mono h_u_law_draw) (by rfl) (da_cons (de_var 0) (da_cons de_int da_nil)))))))))), data⟩

abbrev st_u_law_corpus : Stmt := top 19
def n_u_law_corpus : List Str := ["pool", "letters", "most", "many", "words", "same", "lap", "word"]
theorem sc_u_law_corpus : FnScope n_u_law_corpus ["pool", "letters", "most", "many"] (defScope st_u_law_corpus) := ⟨rfl, rfl, rfl, by decide +kernel, rfl, by decide +kernel, by decide +kernel⟩

theorem mk_u_law_corpus {k : Nat} {sp : DSp} (T : Txt mg) {s_u_law_word : DSp} {k_u_law_word : Nat} (F_u_law_word : Def P w K mg base "_law_word" k_u_law_word ["pool", "letters", "most"] s_u_law_word) (h_u_law_word : k_u_law_word ≤ k) {s_u_law_draw : DSp} {k_u_law_draw : Nat} (F_u_law_draw : Def P w K mg base "_law_draw" k_u_law_draw ["pool", "many"] s_u_law_draw) (h_u_law_draw : k_u_law_draw ≤ k) {s_u_law_count : DSp} {k_u_law_count : Nat} (F_u_law_count : Def P w K mg base "_law_count" k_u_law_count ["pool", "same"] s_u_law_count) (h_u_law_count : k_u_law_count ≤ k) {f : Addr} {fd : FuncData} (F : Fun K "_law_corpus" "_law_corpus" st_u_law_corpus f fd) (len : ∀ ds M Q, sp ds M Q → ds.length = 4)
    (data : ∀ ds M Q, sp ds M Q → t_u_law_corpus s_u_law_word s_u_law_draw s_u_law_count (endsD M Q) (startD 8 ds) M) : FnOk P w K mg base CX0 (k + 1) f fd ["pool", "letters", "most", "many"] (toSp ⟨P, w, K⟩ sp) :=
  fd_mk F sc_u_law_corpus len ⟨t_u_law_corpus s_u_law_word s_u_law_draw s_u_law_count, fun cdv A outer s H E hr => by
    have hu := hr.units
    have hp := @PassesOwn.never
    exact
    (dss_cons (ds_set (i := 4) sc_u_law_corpus.nd rfl (by first | exact Or.inl rfl | exact Or.inr rfl) (de_opX ox_addL (de_lst (da_cons (de_opX ox_add (de_ix hu (de_var 1) de_int fun _ _ => rfl) (de_ix hu (de_var 1) (de_unX ux_neg de_int) fun _ _ => rfl)) da_nil)) (de_lc rfl sc_u_law_corpus.nd (di_range1 (by rfl) T.range (da_cons (de_var 3) da_nil)) (own := [("lap", 6)]) (sh := (.one 6)) (blkOk_by (N := n_u_law_corpus) (by first | decide +kernel | kernel_rfl)) (by decide) (fun _ _ _ _ _ => (pg_name (i := 6) sc_u_law_corpus.nd rfl (Or.inl rfl))) (fun _ _ _ _ _ => dts_nil) (fun _ _ _ _ _ => (de_call F_u_law_word (hr.mono h_u_law_word) (by rfl) (da_cons (de_var 0) (da_cons (de_var 1) (da_cons (de_var 2) da_nil))))))))
    (dss_cons (ds_set (i := 5) sc_u_law_corpus.nd rfl (by first | exact Or.inl rfl | exact Or.inr rfl) (de_opX ox_add de_int (de_call F_u_law_draw (hr.mono h_u_law_draw) (by rfl) (da_cons (de_var 0) (da_cons de_int da_nil)))))
    (dss_one (ds_ret (de_callTy cx_tuple (by rfl) T.tuple (by rfl) (da_cons (de_lc rfl sc_u_law_corpus.nd (di_any (de_sortSet rfl hu (by rfl) T.sorted (by rfl) T.set (de_var 4))) (own := [("word", 7)]) (sh := (.one 7)) (blkOk_by (N := n_u_law_corpus) (by first | decide +kernel | kernel_rfl)) (by decide) (fun _ _ _ _ _ => (pg_name (i := 7) sc_u_law_corpus.nd rfl (Or.inl rfl))) (fun _ _ _ _ _ => dts_nil) (fun _ _ _ _ _ => (de_tup (da_cons (de_var 7) (da_cons (de_call F_u_law_count (hr.mono h_u_law_count) (by rfl) (da_cons (de_var 0) (da_cons (de_var 5) da_nil))) da_nil))))) da_nil)))))), data⟩

abbrev st_u_law_wide : Stmt := top 20
def n_u_law_wide : List Str := ["pool", "letters", "rows", "number", "head", "body", "power", "lap"]
theorem sc_u_law_wide : FnScope n_u_law_wide ["pool", "letters"] (defScope st_u_law_wide) := ⟨rfl, rfl, rfl, by decide +kernel, rfl, by decide +kernel, by decide +kernel⟩

theorem mk_u_law_wide {k : Nat} {sp : DSp} (T : Txt mg) {s_u_law_draw : DSp} {k_u_law_draw : Nat} (F_u_law_draw : Def P w K mg base "_law_draw" k_u_law_draw ["pool", "many"] s_u_law_draw) (h_u_law_draw : k_u_law_draw ≤ k) {f : Addr} {fd : FuncData} (F : Fun K "_law_wide" "_law_wide" st_u_law_wide f fd) (len : ∀ ds M Q, sp ds M Q → ds.length = 2)
    (data : ∀ ds M Q, sp ds M Q → t_u_law_wide s_u_law_draw (endsD M Q) (startD 8 ds) M) : FnOk P w K mg base CX0 (k + 1) f fd ["pool", "letters"] (toSp ⟨P, w, K⟩ sp) :=
  fd_mk F sc_u_law_wide len ⟨t_u_law_wide s_u_law_draw, fun cdv A outer s H E hr => by
    have hu := hr.units
    have hp := @PassesOwn.never
    exact
    (dss_cons (ds_set (i := 2) sc_u_law_wide.nd rfl (by first | exact Or.inl rfl | exact Or.inr rfl) (de_lstM da_nil))
    (dss_cons (ds_for hp rfl (di_range1 (by rfl) T.range (da_cons de_int da_nil)) (dg_name (i := 3) sc_u_law_wide.nd rfl (by first | exact Or.inl rfl | exact Or.inr rfl))
      (dss_cons (ds_set (i := 4) sc_u_law_wide.nd rfl (by first | exact Or.inl rfl | exact Or.inr rfl) (de_meth PySem.F.plainAttrs_str PySem.F.slot_str_join PySem.F.type_str_join mx_join de_str (da_cons (de_lc rfl sc_u_law_wide.nd (di_any (de_tup (da_cons de_int (da_cons de_int (da_cons de_int (da_cons de_int (da_cons de_int (da_cons de_int da_nil)))))))) (own := [("power", 6)]) (sh := (.one 6)) (blkOk_by (N := n_u_law_wide) (by first | decide +kernel | kernel_rfl)) (by decide) (fun _ _ _ _ _ => (pg_name (i := 6) sc_u_law_wide.nd rfl (Or.inl rfl))) (fun _ _ _ _ _ => dts_nil) (fun _ _ _ _ _ => (de_ix hu (de_var 1) (de_opX ox_mod (de_opX ox_fdiv (de_var 3) (de_var 6)) de_int) fun _ _ => rfl))) da_nil)))
      (dss_cons (ds_set (i := 5) sc_u_law_wide.nd rfl (by first | exact Or.inl rfl | exact Or.inr rfl) (de_meth PySem.F.plainAttrs_str PySem.F.slot_str_join PySem.F.type_str_join mx_join de_str (da_cons (de_lc rfl sc_u_law_wide.nd (di_range1 (by rfl) T.range (da_cons (de_opX ox_sub de_int (de_call F_u_law_draw (hr.mono h_u_law_draw) (by rfl) (da_cons (de_var 0) (da_cons de_int da_nil)))) da_nil)) (own := [("lap", 7)]) (sh := (.one 7)) (blkOk_by (N := n_u_law_wide) (by first | decide +kernel | kernel_rfl)) (by decide) (fun _ _ _ _ _ => (pg_name (i := 7) sc_u_law_wide.nd rfl (Or.inl rfl))) (fun _ _ _ _ _ => dts_nil) (fun _ _ _ _ _ => (de_ix hu (de_var 1) (de_call F_u_law_draw (hr.mono h_u_law_draw) (by rfl) (da_cons (de_var 0) (da_cons (de_callB cx_len (by rfl) T.len (by rfl) (da_cons (de_var 1) da_nil)) da_nil))) fun _ _ => rfl))) da_nil)))
      (dss_one (ds_expr (de_meth PySem.F.plainAttrs_list PySem.F.slot_list_append PySem.F.type_list_append mx_append (de_var 2) (da_cons (de_tup (da_cons (de_opX ox_add (de_var 4) (de_var 5)) (da_cons (de_opX ox_sub (de_opX ox_pow de_int de_int) (de_call F_u_law_draw (hr.mono h_u_law_draw) (by rfl) (da_cons (de_var 0) (da_cons (de_opX ox_add (de_opX ox_pow de_int de_int) de_int) da_nil)))) da_nil))) da_nil)))))))
    (dss_one (ds_ret (de_callTy cx_tuple (by rfl) T.tuple (by rfl) (da_cons (de_var 2) da_nil)))))), data⟩

abbrev st_u_law_joined : Stmt := top 21
def n_u_law_joined : List Str := ["pieces", "pair", "made", "at"]
theorem sc_u_law_joined : FnScope n_u_law_joined ["pieces", "pair"] (defScope st_u_law_joined) := ⟨rfl, rfl, rfl, by decide +kernel, rfl, by decide +kernel, by decide +kernel⟩

theorem mk_u_law_joined {k : Nat} {sp : DSp} (T : Txt mg) {f : Addr} {fd : FuncData} (F : Fun K "_law_joined" "_law_joined" st_u_law_joined f fd) (len : ∀ ds M Q, sp ds M Q → ds.length = 2)
    (data : ∀ ds M Q, sp ds M Q → t_u_law_joined (endsD M Q) (startD 4 ds) M) : FnOk P w K mg base CX0 (k + 1) f fd ["pieces", "pair"] (toSp ⟨P, w, K⟩ sp) :=
  fd_mk F sc_u_law_joined len ⟨t_u_law_joined, fun cdv A outer s H E hr => by
    have hu := hr.units
    have hp := @PassesOwn.never
    exact
    (dss_cons (ds_set (i := 2) sc_u_law_joined.nd rfl (by first | exact Or.inl rfl | exact Or.inr rfl) (de_lstM da_nil))
    (dss_cons (ds_set (i := 3) sc_u_law_joined.nd rfl (by first | exact Or.inl rfl | exact Or.inr rfl) de_int)
    (dss_cons (ds_while hp (dt_cmpX ox_lt rfl (de_var 3) (de_callB cx_len (by rfl) T.len (by rfl) (da_cons (de_var 0) da_nil)))
      (dss_one (ds_if (dw_and (dt_cmpX ox_lt rfl (de_opX ox_add (de_var 3) de_int) (de_callB cx_len (by rfl) T.len (by rfl) (da_cons (de_var 0) da_nil))) (dw_and1 (dt_cmpX (ox_eq hu) rfl (de_tup (da_cons (de_ix hu (de_var 0) (de_var 3) fun _ _ => rfl) (da_cons (de_ix hu (de_var 0) (de_opX ox_add (de_var 3) de_int) fun _ _ => rfl) da_nil))) (de_var 1)))).dt
        (dss_cons (ds_expr (de_meth PySem.F.plainAttrs_list PySem.F.slot_list_append PySem.F.type_list_append mx_append (de_var 2) (da_cons (de_opX ox_add (de_ix hu (de_var 0) (de_var 3) fun _ _ => rfl) (de_ix hu (de_var 0) (de_opX ox_add (de_var 3) de_int) fun _ _ => rfl)) da_nil)))
        (dss_one (ds_set (i := 3) sc_u_law_joined.nd rfl (by first | exact Or.inl rfl | exact Or.inr rfl) (de_opX ox_add (de_var 3) de_int))))
        (dss_cons (ds_expr (de_meth PySem.F.plainAttrs_list PySem.F.slot_list_append PySem.F.type_list_append mx_append (de_var 2) (da_cons (de_ix hu (de_var 0) (de_var 3) fun _ _ => rfl) da_nil)))
        (dss_one (ds_set (i := 3) sc_u_law_joined.nd rfl (by first | exact Or.inl rfl | exact Or.inr rfl) (de_opX ox_add (de_var 3) de_int)))))))
    (dss_one (ds_ret (de_var 2)))))), data⟩

abbrev st_u_law_rules : Stmt := top 22
def n_u_law_rules : List Str := ["corpus", "entry", "count", "steps", "lines", "at", "rules", "joined", "step", "found", "pieces", "times", "pair", "best", "line", "sign"]
theorem sc_u_law_rules : FnScope n_u_law_rules ["corpus", "entry", "count", "steps"] (defScope st_u_law_rules) := ⟨rfl, rfl, rfl, by decide +kernel, rfl, by decide +kernel, by decide +kernel⟩

theorem mk_u_law_rules {k : Nat} {sp : DSp} (T : Txt mg) {s_u_law_joined : DSp} {k_u_law_joined : Nat} (F_u_law_joined : Def P w K mg base "_law_joined" k_u_law_joined ["pieces", "pair"] s_u_law_joined) (h_u_law_joined : k_u_law_joined ≤ k) {f : Addr} {fd : FuncData} (F : Fun K "_law_rules" "_law_rules" st_u_law_rules f fd) (len : ∀ ds M Q, sp ds M Q → ds.length = 4)
    (data : ∀ ds M Q, sp ds M Q → t_u_law_rules s_u_law_joined (endsD M Q) (startD 16 ds) M) : FnOk P w K mg base CX0 (k + 1) f fd ["corpus", "entry", "count", "steps"] (toSp ⟨P, w, K⟩ sp) :=
  fd_mk F sc_u_law_rules len ⟨t_u_law_rules s_u_law_joined, fun cdv A outer s H E hr => by
    have hu := hr.units
    have hp := @PassesOwn.never
    exact
    (dss_cons (ds_set (i := 4) sc_u_law_rules.nd rfl (by first | exact Or.inl rfl | exact Or.inr rfl) (de_lstM da_nil))
    (dss_cons (ds_for hp rfl (di_range1 (by rfl) T.range (da_cons (de_callB cx_len (by rfl) T.len (by rfl) (da_cons (de_var 0) da_nil)) da_nil)) (dg_name (i := 5) sc_u_law_rules.nd rfl (by first | exact Or.inl rfl | exact Or.inr rfl))
      (dss_one (ds_expr (de_meth PySem.F.plainAttrs_list PySem.F.slot_list_append PySem.F.type_list_append mx_append (de_var 4) (da_cons (de_lstM (da_cons (de_lc rfl sc_u_law_rules.nd (di_any (de_ix hu (de_ix hu (de_var 0) (de_var 5) fun _ _ => rfl) de_int fun _ _ => rfl)) (own := [("sign", 15)]) (sh := (.one 15)) (blkOk_by (N := n_u_law_rules) (by first | decide +kernel | kernel_rfl)) (by decide) (fun _ _ _ _ _ => (pg_name (i := 15) sc_u_law_rules.nd rfl (Or.inl rfl))) (fun _ _ _ _ _ => dts_nil) (fun _ _ _ _ _ => (de_var 15))) (da_cons (de_if (dt_cmpX (ox_eq hu) rfl (de_var 5) (de_var 1)) (de_var 2) (de_ix hu (de_ix hu (de_var 0) (de_var 5) fun _ _ => rfl) de_int fun _ _ => rfl)) da_nil))) da_nil)))))
    (dss_cons (ds_set (i := 6) sc_u_law_rules.nd rfl (by first | exact Or.inl rfl | exact Or.inr rfl) (de_lstM da_nil))
    (dss_cons (ds_set (i := 7) sc_u_law_rules.nd rfl (by first | exact Or.inl rfl | exact Or.inr rfl) de_newK)
    (dss_cons (ds_for hp rfl (di_range1 (by rfl) T.range (da_cons (de_var 3) da_nil)) (dg_name (i := 8) sc_u_law_rules.nd rfl (by first | exact Or.inl rfl | exact Or.inr rfl))
      (dss_cons (ds_set (i := 9) sc_u_law_rules.nd rfl (by first | exact Or.inl rfl | exact Or.inr rfl) de_newN)
      (dss_cons (ds_for hp rfl (di_any (de_var 4)) (dg_seq (n := 2) rfl (dgs_cons (dg_name (i := 10) sc_u_law_rules.nd rfl (by first | exact Or.inl rfl | exact Or.inr rfl)) (dgs_cons (dg_name (i := 11) sc_u_law_rules.nd rfl (by first | exact Or.inl rfl | exact Or.inr rfl)) dgs_nil)))
        (dss_one (ds_for hp rfl (di_range1 (by rfl) T.range (da_cons (de_opX ox_sub (de_callB cx_len (by rfl) T.len (by rfl) (da_cons (de_var 10) da_nil)) de_int) da_nil)) (dg_name (i := 5) sc_u_law_rules.nd rfl (by first | exact Or.inl rfl | exact Or.inr rfl))
          (dss_one (ds_if (dt_cmpX (ox_notInD hu) rfl (de_opX ox_add (de_ix hu (de_var 10) (de_var 5) fun _ _ => rfl) (de_ix hu (de_var 10) (de_opX ox_add (de_var 5) de_int) fun _ _ => rfl)) (de_var 7))
            (dss_cons (ds_set (i := 12) sc_u_law_rules.nd rfl (by first | exact Or.inl rfl | exact Or.inr rfl) (de_tup (da_cons (de_ix hu (de_var 10) (de_var 5) fun _ _ => rfl) (da_cons (de_ix hu (de_var 10) (de_opX ox_add (de_var 5) de_int) fun _ _ => rfl) da_nil))))
            (dss_one (ds_asg (de_opX ox_add (de_meth PySem.F.plainAttrs_dict PySem.F.slot_dict_get PySem.F.type_dict_get (mx_get hu) (de_var 9) (da_cons (de_var 12) (da_cons de_int da_nil))) (de_var 11)) (dg_sub hu (de_var 9) (de_var 12)))))
            dss_nil)))))
      (dss_cons (ds_set (i := 13) sc_u_law_rules.nd rfl (by first | exact Or.inl rfl | exact Or.inr rfl) de_non)
      (dss_cons (ds_for hp rfl (di_any (de_callB (cx_sorted rfl hu) (by rfl) T.sorted (by rfl) (da_cons (de_var 9) da_nil))) (dg_name (i := 12) sc_u_law_rules.nd rfl (by first | exact Or.inl rfl | exact Or.inr rfl))
        (dss_one (ds_if (dw_and (dt_cmpX ox_gt rfl (de_ix hu (de_var 9) (de_var 12) fun _ _ => rfl) de_int) (dw_and1 (dw_or (dt_cmpX ox_isN rfl (de_var 13) de_non) (dw_or1 (dt_cmpX ox_gt rfl (de_ix hu (de_var 9) (de_var 12) fun _ _ => rfl) (de_ix hu (de_var 9) (de_var 13) fun _ _ => rfl)))).dt)).dt
          (dss_one (ds_set (i := 13) sc_u_law_rules.nd rfl (by first | exact Or.inl rfl | exact Or.inr rfl) (de_var 12)))
          dss_nil)))
      (dss_cons (ds_if (dt_cmpX ox_isN rfl (de_var 13) de_non)
        (dss_one ds_break)
        dss_nil)
      (dss_cons (ds_expr (de_meth PySem.F.plainAttrs_list PySem.F.slot_list_append PySem.F.type_list_append mx_append (de_var 6) (da_cons (de_var 13) da_nil)))
      (dss_cons (ds_asg de_bl (dg_sub hu (de_var 7) (de_opX ox_add (de_ix hu (de_var 13) de_int fun _ _ => rfl) (de_ix hu (de_var 13) de_int fun _ _ => rfl))))
      (dss_one (ds_for hp rfl (di_any (de_var 4)) (dg_name (i := 14) sc_u_law_rules.nd rfl (by first | exact Or.inl rfl | exact Or.inr rfl))
        (dss_one (ds_asg (de_call F_u_law_joined (hr.mono h_u_law_joined) (by rfl) (da_cons (de_ix hu (de_var 14) de_int fun _ _ => rfl) (da_cons (de_var 13) da_nil))) (dg_sub hu (de_var 14) de_int)))))))))))))
    (dss_one (ds_ret (de_var 6)))))))), data⟩

abbrev st_u_law_number : Stmt := top 23
def n_u_law_number : List Str := ["told"]
theorem sc_u_law_number : FnScope n_u_law_number ["told"] (defScope st_u_law_number) := ⟨rfl, rfl, rfl, by decide +kernel, rfl, by decide +kernel, by decide +kernel⟩

theorem mk_u_law_number {k : Nat} {sp : DSp} (T : Txt mg) {f : Addr} {fd : FuncData} (F : Fun K "_law_number" "_law_number" st_u_law_number f fd) (len : ∀ ds M Q, sp ds M Q → ds.length = 1)
    (data : ∀ ds M Q, sp ds M Q → t_u_law_number (endsD M Q) (startD 1 ds) M) : FnOk P w K mg base CX0 (k + 1) f fd ["told"] (toSp ⟨P, w, K⟩ sp) :=
  fd_mk F sc_u_law_number len ⟨t_u_law_number, fun cdv A outer s H E hr => by
    have hu := hr.units
    have hp := @PassesOwn.never
    exact
    (dss_one (ds_ret (de_and (de_callB cx_isi (by rfl) T.isinstance (by rfl) (da_cons (de_var 0) (da_cons (de_ty (by rfl) T.int (by rfl)) da_nil))) (de_and (de_not (de_callB cx_isi (by rfl) T.isinstance (by rfl) (da_cons (de_var 0) (da_cons (de_ty (by rfl) T.bool (by rfl)) da_nil)))) (de_one (de_chainX ox_le ox_le de_int (de_var 0) (de_opX ox_pow de_int de_int))))))), data⟩

abbrev st_u_law_trains : Stmt := top 24
def n_u_law_trains : List Str := ["letters", "corpus", "entry", "count", "steps", "rules", "other", "due", "told", "left", "right"]
theorem sc_u_law_trains : FnScope n_u_law_trains ["letters", "corpus", "entry", "count", "steps", "rules"] (defScope st_u_law_trains) := ⟨rfl, rfl, rfl, by decide +kernel, rfl, by decide +kernel, by decide +kernel⟩

theorem mk_u_law_trains {k : Nat} {sp : DSp} (T : Txt mg) {s_train_joins : DSp} {k_train_joins : Nat} (F_train_joins : Def P w K mg base "train_joins" k_train_joins ["letters", "name", "corpus", "steps"] s_train_joins) (h_train_joins : k_train_joins ≤ k) {c_SeamError : Value} (h_SeamError : mg "SeamError" = some c_SeamError) {f : Addr} {fd : FuncData} (F : Fun K "_law_trains" "_law_trains" st_u_law_trains f fd) (len : ∀ ds M Q, sp ds M Q → ds.length = 6)
    (data : ∀ ds M Q, sp ds M Q → t_u_law_trains s_train_joins (endsD M Q) (startD 11 ds) M) : FnOk P w K mg base CX0 (k + 1) f fd ["letters", "corpus", "entry", "count", "steps", "rules"] (toSp ⟨P, w, K⟩ sp) :=
  fd_mk F sc_u_law_trains len ⟨t_u_law_trains s_train_joins, fun cdv A outer s H E hr => by
    have hu := hr.units
    have hp := @PassesOwn.never
    exact
    (dss_cons (ds_if (dt_cmpX ox_gt rfl (de_var 3) (de_opX ox_pow de_int de_int))
      (dss_one (ds_ret de_bl))
      dss_nil)
    (dss_cons (ds_set (i := 6) sc_u_law_trains.nd rfl (by first | exact Or.inl rfl | exact Or.inr rfl) (de_opX ox_add (de_opX ox_add (de_slice (de_var 1) do_none (do_some (de_var 2))) (de_tup (da_cons (de_tup (da_cons (de_ix hu (de_ix hu (de_var 1) (de_var 2) fun _ _ => rfl) de_int fun _ _ => rfl) (da_cons (de_var 3) da_nil))) da_nil))) (de_slice (de_var 1) (do_some (de_opX ox_add (de_var 2) de_int)) do_none)))
    (dss_cons (ds_set (i := 7) sc_u_law_trains.nd rfl (by first | exact Or.inl rfl | exact Or.inr rfl) (de_tup (da_cons de_str (da_cons (de_var 0) (da_cons de_str (da_cons (de_callTy cx_tuple (by rfl) T.tuple (by rfl) (da_cons (de_lc rfl sc_u_law_trains.nd (di_any (de_var 5)) (own := [("left", 9), ("right", 10)]) (sh := (.many [9, 10])) (blkOk_by (N := n_u_law_trains) (by first | decide +kernel | kernel_rfl)) (by decide) (fun _ _ _ _ _ => (pg_tup rfl (pgs_cons (pg_name (i := 9) sc_u_law_trains.nd rfl (Or.inl rfl)) (pgs_cons (pg_name (i := 10) sc_u_law_trains.nd rfl (Or.inl rfl)) pgs_nil)))) (fun _ _ _ _ _ => dts_nil) (fun _ _ _ _ _ => (de_tup (da_cons (de_var 9) (da_cons (de_var 10) (da_cons de_str da_nil)))))) da_nil)) da_nil))))))
    (dss_cons (ds_try rfl rfl ⟨rfl, by decide, .inl h_SeamError⟩ fun pn xe hp =>
      (dss_one (ds_set (i := 8) sc_u_law_trains.nd rfl (by first | exact Or.inl rfl | exact Or.inr rfl) (de_call F_train_joins (hr.mono h_train_joins) (by rfl) (da_cons (de_var 0) (da_cons de_str (da_cons (de_var 6) (da_cons (de_var 4) da_nil))))))))
    (dss_one (ds_ret (de_and (de_callB cx_isi (by rfl) T.isinstance (by rfl) (da_cons (de_var 8) (da_cons (de_ty (by rfl) T.tuple (by rfl)) da_nil))) (de_one (de_cmpX (ox_eq hu) rfl (de_var 8) (de_var 7)))))))))), data⟩

abbrev st_u_law_right : Stmt := top 25
def n_u_law_right : List Str := ["letters", "corpus", "steps", "entry", "trained", "told", "own", "beyond", "count", "rules"]
theorem sc_u_law_right : FnScope n_u_law_right ["letters", "corpus", "steps", "entry", "trained"] (defScope st_u_law_right) := ⟨rfl, rfl, rfl, by decide +kernel, rfl, by decide +kernel, by decide +kernel⟩

theorem mk_u_law_right {k : Nat} {sp : DSp} (T : Txt mg) {s_margin_of : DSp} {k_margin_of : Nat} (F_margin_of : Def P w K mg base "margin_of" k_margin_of ["letters", "corpus", "steps", "entry"] s_margin_of) (h_margin_of : k_margin_of ≤ k) {s_u_law_number : DSp} {k_u_law_number : Nat} (F_u_law_number : Def P w K mg base "_law_number" k_u_law_number ["told"] s_u_law_number) (h_u_law_number : k_u_law_number ≤ k) {s_u_law_rules : DSp} {k_u_law_rules : Nat} (F_u_law_rules : Def P w K mg base "_law_rules" k_u_law_rules ["corpus", "entry", "count", "steps"] s_u_law_rules) (h_u_law_rules : k_u_law_rules ≤ k) {s_u_law_trains : DSp} {k_u_law_trains : Nat} (F_u_law_trains : Def P w K mg base "_law_trains" k_u_law_trains ["letters", "corpus", "entry", "count", "steps", "rules"] s_u_law_trains) (h_u_law_trains : k_u_law_trains ≤ k) {c_SeamError : Value} (h_SeamError : mg "SeamError" = some c_SeamError) {f : Addr} {fd : FuncData} (F : Fun K "_law_right" "_law_right" st_u_law_right f fd) (len : ∀ ds M Q, sp ds M Q → ds.length = 5)
    (data : ∀ ds M Q, sp ds M Q → t_u_law_right s_margin_of s_u_law_number s_u_law_rules s_u_law_trains (endsD M Q) (startD 10 ds) M) : FnOk P w K mg base CX0 (k + 1) f fd ["letters", "corpus", "steps", "entry", "trained"] (toSp ⟨P, w, K⟩ sp) :=
  fd_mk F sc_u_law_right len ⟨t_u_law_right s_margin_of s_u_law_number s_u_law_rules s_u_law_trains, fun cdv A outer s H E hr => by
    have hu := hr.units
    have hp := @PassesOwn.never
    exact
    (dss_cons (ds_try rfl rfl ⟨rfl, by decide, .inl h_SeamError⟩ fun pn xe hp =>
      (dss_one (ds_set (i := 5) sc_u_law_right.nd rfl (by first | exact Or.inl rfl | exact Or.inr rfl) (de_call F_margin_of (hr.mono h_margin_of) (by rfl) (da_cons (de_var 0) (da_cons (de_var 1) (da_cons (de_var 2) (da_cons (de_var 3) da_nil))))))))
    (dss_cons (ds_if (dw_or (dt_not (dt_val (de_callB cx_isi (by rfl) T.isinstance (by rfl) (da_cons (de_var 5) (da_cons (de_ty (by rfl) T.tuple (by rfl)) da_nil))))) (dw_or (dt_cmpX (ox_ne hu) rfl (de_callB cx_len (by rfl) T.len (by rfl) (da_cons (de_var 5) da_nil)) de_int) (dw_or1 (dt_not (dt_val (de_call F_u_law_number (hr.mono h_u_law_number) (by rfl) (da_cons (de_ix hu (de_var 5) de_int fun _ _ => rfl) da_nil))))))).dt
      (dss_one (ds_ret de_bl))
      dss_nil)
    (dss_cons (ds_if (dw_and (dt_cmpX ox_notN rfl (de_ix hu (de_var 5) de_int fun _ _ => rfl) de_non) (dw_and1 (dt_not (dt_val (de_call F_u_law_number (hr.mono h_u_law_number) (by rfl) (da_cons (de_ix hu (de_var 5) de_int fun _ _ => rfl) da_nil)))))).dt
      (dss_one (ds_ret de_bl))
      dss_nil)
    (dss_cons (ds_set (i := 6) sc_u_law_right.nd rfl (by first | exact Or.inl rfl | exact Or.inr rfl) (de_call F_u_law_rules (hr.mono h_u_law_rules) (by rfl) (da_cons (de_var 1) (da_cons (de_var 3) (da_cons (de_ix hu (de_ix hu (de_var 1) (de_var 3) fun _ _ => rfl) de_int fun _ _ => rfl) (da_cons (de_var 2) da_nil))))))
    (dss_cons (ds_if (dw_or (dt_cmpX ox_gt rfl (de_ix hu (de_var 5) de_int fun _ _ => rfl) (de_ix hu (de_ix hu (de_var 1) (de_var 3) fun _ _ => rfl) de_int fun _ _ => rfl)) (dw_or1 (dw_and (dt_cmpX ox_notN rfl (de_ix hu (de_var 5) de_int fun _ _ => rfl) de_non) (dw_and1 (dt_cmpX ox_lt rfl (de_ix hu (de_var 5) de_int fun _ _ => rfl) (de_ix hu (de_ix hu (de_var 1) (de_var 3) fun _ _ => rfl) de_int fun _ _ => rfl)))).dt)).dt
      (dss_one (ds_ret de_bl))
      dss_nil)
    (dss_cons (ds_set (i := 7) sc_u_law_right.nd rfl (by first | exact Or.inl rfl | exact Or.inr rfl) (de_lstM da_nil))
    (dss_cons (ds_if (dt_cmpX ox_gt rfl (de_ix hu (de_var 5) de_int fun _ _ => rfl) de_int)
      (dss_one (ds_expr (de_meth PySem.F.plainAttrs_list PySem.F.slot_list_append PySem.F.type_list_append mx_append (de_var 7) (da_cons (de_opX ox_sub (de_ix hu (de_var 5) de_int fun _ _ => rfl) de_int) da_nil))))
      dss_nil)
    (dss_cons (ds_if (dt_cmpX ox_notN rfl (de_ix hu (de_var 5) de_int fun _ _ => rfl) de_non)
      (dss_one (ds_expr (de_meth PySem.F.plainAttrs_list PySem.F.slot_list_append PySem.F.type_list_append mx_append (de_var 7) (da_cons (de_opX ox_add (de_ix hu (de_var 5) de_int fun _ _ => rfl) de_int) da_nil))))
      dss_nil)
    (dss_cons (ds_for hp rfl (di_any (de_tup (da_cons (de_ix hu (de_var 5) de_int fun _ _ => rfl) (da_cons (de_if (dt_cmpX ox_isN rfl (de_ix hu (de_var 5) de_int fun _ _ => rfl) de_non) (de_opX ox_pow de_int de_int) (de_ix hu (de_var 5) de_int fun _ _ => rfl)) da_nil)))) (dg_name (i := 8) sc_u_law_right.nd rfl (by first | exact Or.inl rfl | exact Or.inr rfl))
      (dss_cons (ds_if (dt_cmpX (ox_ne hu) rfl (de_call F_u_law_rules (hr.mono h_u_law_rules) (by rfl) (da_cons (de_var 1) (da_cons (de_var 3) (da_cons (de_var 8) (da_cons (de_var 2) da_nil))))) (de_var 6))
        (dss_one (ds_ret de_bl))
        dss_nil)
      (dss_one (ds_if (dw_and (dt_val (de_var 4)) (dw_and1 (dt_not (dt_val (de_call F_u_law_trains (hr.mono h_u_law_trains) (by rfl) (da_cons (de_var 0) (da_cons (de_var 1) (da_cons (de_var 3) (da_cons (de_var 8) (da_cons (de_var 2) (da_cons (de_var 6) da_nil))))))))))).dt
        (dss_one (ds_ret de_bl))
        dss_nil))))
    (dss_cons (ds_for hp rfl (di_any (de_var 7)) (dg_name (i := 8) sc_u_law_right.nd rfl (by first | exact Or.inl rfl | exact Or.inr rfl))
      (dss_cons (ds_set (i := 9) sc_u_law_right.nd rfl (by first | exact Or.inl rfl | exact Or.inr rfl) (de_call F_u_law_rules (hr.mono h_u_law_rules) (by rfl) (da_cons (de_var 1) (da_cons (de_var 3) (da_cons (de_var 8) (da_cons (de_var 2) da_nil))))))
      (dss_one (ds_if (dw_or (dt_cmpX (ox_eq hu) rfl (de_var 9) (de_var 6)) (dw_or1 (dw_and (dt_val (de_var 4)) (dw_and1 (dt_not (dt_val (de_call F_u_law_trains (hr.mono h_u_law_trains) (by rfl) (da_cons (de_var 0) (da_cons (de_var 1) (da_cons (de_var 3) (da_cons (de_var 8) (da_cons (de_var 2) (da_cons (de_var 9) da_nil))))))))))).dt)).dt
        (dss_one (ds_ret de_bl))
        dss_nil))))
    (dss_one (ds_ret de_bl)))))))))))), data⟩

abbrev st_u_law_is : Stmt := top 26
def n_u_law_is : List Str := ["letters", "corpus", "steps", "entry", "least", "greatest", "told"]
theorem sc_u_law_is : FnScope n_u_law_is ["letters", "corpus", "steps", "entry", "least", "greatest"] (defScope st_u_law_is) := ⟨rfl, rfl, rfl, by decide +kernel, rfl, by decide +kernel, by decide +kernel⟩

theorem mk_u_law_is {k : Nat} {sp : DSp} (T : Txt mg) {s_margin_of : DSp} {k_margin_of : Nat} (F_margin_of : Def P w K mg base "margin_of" k_margin_of ["letters", "corpus", "steps", "entry"] s_margin_of) (h_margin_of : k_margin_of ≤ k) {s_u_law_number : DSp} {k_u_law_number : Nat} (F_u_law_number : Def P w K mg base "_law_number" k_u_law_number ["told"] s_u_law_number) (h_u_law_number : k_u_law_number ≤ k) {c_SeamError : Value} (h_SeamError : mg "SeamError" = some c_SeamError) {f : Addr} {fd : FuncData} (F : Fun K "_law_is" "_law_is" st_u_law_is f fd) (len : ∀ ds M Q, sp ds M Q → ds.length = 6)
    (data : ∀ ds M Q, sp ds M Q → t_u_law_is s_margin_of s_u_law_number (endsD M Q) (startD 7 ds) M) : FnOk P w K mg base CX0 (k + 1) f fd ["letters", "corpus", "steps", "entry", "least", "greatest"] (toSp ⟨P, w, K⟩ sp) :=
  fd_mk F sc_u_law_is len ⟨t_u_law_is s_margin_of s_u_law_number, fun cdv A outer s H E hr => by
    have hu := hr.units
    have hp := @PassesOwn.never
    exact
    (dss_cons (ds_try rfl rfl ⟨rfl, by decide, .inl h_SeamError⟩ fun pn xe hp =>
      (dss_one (ds_set (i := 6) sc_u_law_is.nd rfl (by first | exact Or.inl rfl | exact Or.inr rfl) (de_call F_margin_of (hr.mono h_margin_of) (by rfl) (da_cons (de_var 0) (da_cons (de_var 1) (da_cons (de_var 2) (da_cons (de_var 3) da_nil))))))))
    (dss_cons (ds_if (dw_or (dt_not (dt_val (de_callB cx_isi (by rfl) T.isinstance (by rfl) (da_cons (de_var 6) (da_cons (de_ty (by rfl) T.tuple (by rfl)) da_nil))))) (dw_or (dt_cmpX (ox_ne hu) rfl (de_callB cx_len (by rfl) T.len (by rfl) (da_cons (de_var 6) da_nil)) de_int) (dw_or (dt_not (dt_val (de_call F_u_law_number (hr.mono h_u_law_number) (by rfl) (da_cons (de_ix hu (de_var 6) de_int fun _ _ => rfl) da_nil)))) (dw_or1 (dt_cmpX (ox_ne hu) rfl (de_ix hu (de_var 6) de_int fun _ _ => rfl) (de_var 4)))))).dt
      (dss_one (ds_ret de_bl))
      dss_nil)
    (dss_cons (ds_if (dt_cmpX ox_isN rfl (de_var 5) de_non)
      (dss_one (ds_ret (de_cmpX ox_isN rfl (de_ix hu (de_var 6) de_int fun _ _ => rfl) de_non)))
      dss_nil)
    (dss_one (ds_ret (de_and (de_call F_u_law_number (hr.mono h_u_law_number) (by rfl) (da_cons (de_ix hu (de_var 6) de_int fun _ _ => rfl) da_nil)) (de_one (de_cmpX (ox_eq hu) rfl (de_ix hu (de_var 6) de_int fun _ _ => rfl) (de_var 5))))))))), data⟩

abbrev st_u_law_sure : Stmt := top 27
def n_u_law_sure : List Str := ["pool", "letters", "one", "two", "last", "low", "middle", "high", "corpus", "great"]
theorem sc_u_law_sure : FnScope n_u_law_sure ["pool"] (defScope st_u_law_sure) := ⟨rfl, rfl, rfl, by decide +kernel, rfl, by decide +kernel, by decide +kernel⟩

theorem mk_u_law_sure {k : Nat} {sp : DSp} (T : Txt mg) {s_u_law_letters : DSp} {k_u_law_letters : Nat} (F_u_law_letters : Def P w K mg base "_law_letters" k_u_law_letters ["pool", "many"] s_u_law_letters) (h_u_law_letters : k_u_law_letters ≤ k) {s_u_law_draw : DSp} {k_u_law_draw : Nat} (F_u_law_draw : Def P w K mg base "_law_draw" k_u_law_draw ["pool", "many"] s_u_law_draw) (h_u_law_draw : k_u_law_draw ≤ k) {s_u_law_is : DSp} {k_u_law_is : Nat} (F_u_law_is : Def P w K mg base "_law_is" k_u_law_is ["letters", "corpus", "steps", "entry", "least", "greatest"] s_u_law_is) (h_u_law_is : k_u_law_is ≤ k) {f : Addr} {fd : FuncData} (F : Fun K "_law_sure" "_law_sure" st_u_law_sure f fd) (len : ∀ ds M Q, sp ds M Q → ds.length = 1)
    (data : ∀ ds M Q, sp ds M Q → t_u_law_sure s_u_law_letters s_u_law_draw s_u_law_is (endsD M Q) (startD 10 ds) M) : FnOk P w K mg base CX0 (k + 1) f fd ["pool"] (toSp ⟨P, w, K⟩ sp) :=
  fd_mk F sc_u_law_sure len ⟨t_u_law_sure s_u_law_letters s_u_law_draw s_u_law_is, fun cdv A outer s H E hr => by
    have hu := hr.units
    have hp := @PassesOwn.never
    exact
    (dss_cons (ds_set (i := 1) sc_u_law_sure.nd rfl (by first | exact Or.inl rfl | exact Or.inr rfl) (de_call F_u_law_letters (hr.mono h_u_law_letters) (by rfl) (da_cons (de_var 0) (da_cons de_int da_nil))))
    (dss_cons (ds_asg (de_var 1) (dg_str (n := 3) rfl (dgs_cons (dg_name (i := 2) sc_u_law_sure.nd rfl (by first | exact Or.inl rfl | exact Or.inr rfl)) (dgs_cons (dg_name (i := 3) sc_u_law_sure.nd rfl (by first | exact Or.inl rfl | exact Or.inr rfl)) (dgs_cons (dg_name (i := 4) sc_u_law_sure.nd rfl (by first | exact Or.inl rfl | exact Or.inr rfl)) dgs_nil)))))
    (dss_cons (ds_set (i := 5) sc_u_law_sure.nd rfl (by first | exact Or.inl rfl | exact Or.inr rfl) (de_opX ox_add de_int (de_call F_u_law_draw (hr.mono h_u_law_draw) (by rfl) (da_cons (de_var 0) (da_cons de_int da_nil)))))
    (dss_cons (ds_set (i := 6) sc_u_law_sure.nd rfl (by first | exact Or.inl rfl | exact Or.inr rfl) (de_opX ox_add (de_var 5) (de_call F_u_law_draw (hr.mono h_u_law_draw) (by rfl) (da_cons (de_var 0) (da_cons de_int da_nil)))))
    (dss_cons (ds_set (i := 7) sc_u_law_sure.nd rfl (by first | exact Or.inl rfl | exact Or.inr rfl) (de_opX ox_add (de_var 6) (de_opX ox_mul (de_call F_u_law_draw (hr.mono h_u_law_draw) (by rfl) (da_cons (de_var 0) (da_cons de_int da_nil))) (de_call F_u_law_draw (hr.mono h_u_law_draw) (by rfl) (da_cons (de_var 0) (da_cons (de_opX ox_sub (de_opX ox_pow de_int de_int) de_int) da_nil))))))
    (dss_cons (ds_set (i := 8) sc_u_law_sure.nd rfl (by first | exact Or.inl rfl | exact Or.inr rfl) (de_tup (da_cons (de_tup (da_cons (de_opX ox_mul (de_var 2) de_int) (da_cons (de_var 7) da_nil))) (da_cons (de_tup (da_cons (de_var 3) (da_cons de_int da_nil))) (da_cons (de_tup (da_cons (de_opX ox_mul (de_var 3) de_int) (da_cons (de_var 6) da_nil))) (da_cons (de_tup (da_cons (de_opX ox_mul (de_var 4) de_int) (da_cons (de_var 5) da_nil))) da_nil))))))
    (dss_cons (ds_if (dw_or (dt_not (dt_val (de_call F_u_law_is (hr.mono h_u_law_is) (by rfl) (da_cons (de_var 1) (da_cons (de_var 8) (da_cons de_int (da_cons de_int (da_cons (de_var 5) (da_cons (de_var 7) da_nil))))))))) (dw_or1 (dt_not (dt_val (de_call F_u_law_is (hr.mono h_u_law_is) (by rfl) (da_cons (de_var 1) (da_cons (de_var 8) (da_cons de_int (da_cons de_int (da_cons (de_var 6) (da_cons de_non da_nil))))))))))).dt
      (dss_one (ds_ret de_bl))
      dss_nil)
    (dss_cons (ds_if (dw_or (dt_not (dt_val (de_call F_u_law_is (hr.mono h_u_law_is) (by rfl) (da_cons (de_var 1) (da_cons (de_var 8) (da_cons de_int (da_cons de_int (da_cons de_int (da_cons (de_var 6) da_nil))))))))) (dw_or1 (dt_not (dt_val (de_call F_u_law_is (hr.mono h_u_law_is) (by rfl) (da_cons (de_var 1) (da_cons (de_var 8) (da_cons de_int (da_cons de_int (da_cons de_int (da_cons de_non da_nil))))))))))).dt
      (dss_one (ds_ret de_bl))
      dss_nil)
    (dss_cons (ds_set (i := 9) sc_u_law_sure.nd rfl (by first | exact Or.inl rfl | exact Or.inr rfl) (de_opX ox_sub (de_opX ox_pow de_int de_int) (de_call F_u_law_draw (hr.mono h_u_law_draw) (by rfl) (da_cons (de_var 0) (da_cons de_int da_nil)))))
    (dss_cons (ds_set (i := 8) sc_u_law_sure.nd rfl (by first | exact Or.inl rfl | exact Or.inr rfl) (de_tup (da_cons (de_tup (da_cons (de_opX ox_mul (de_var 2) de_int) (da_cons (de_call F_u_law_draw (hr.mono h_u_law_draw) (by rfl) (da_cons (de_var 0) (da_cons de_int da_nil))) da_nil))) (da_cons (de_tup (da_cons (de_opX ox_mul (de_var 3) de_int) (da_cons (de_var 9) da_nil))) da_nil))))
    (dss_cons (ds_if (dw_or (dt_not (dt_val (de_call F_u_law_is (hr.mono h_u_law_is) (by rfl) (da_cons (de_var 1) (da_cons (de_var 8) (da_cons de_int (da_cons de_int (da_cons de_int (da_cons (de_opX ox_sub (de_opX ox_mul de_int (de_var 9)) de_int) da_nil))))))))) (dw_or1 (dt_not (dt_val (de_call F_u_law_is (hr.mono h_u_law_is) (by rfl) (da_cons (de_var 1) (da_cons (de_var 8) (da_cons de_int (da_cons de_int (da_cons de_int (da_cons de_non da_nil))))))))))).dt
      (dss_one (ds_ret de_bl))
      dss_nil)
    (dss_cons (ds_set (i := 8) sc_u_law_sure.nd rfl (by first | exact Or.inl rfl | exact Or.inr rfl) (de_tup (da_cons (de_tup (da_cons (de_opX ox_mul (de_var 2) de_int) (da_cons de_int da_nil))) (da_cons (de_tup (da_cons (de_opX ox_mul (de_var 3) de_int) (da_cons de_int da_nil))) da_nil))))
    (dss_one (ds_ret (de_call F_u_law_is (hr.mono h_u_law_is) (by rfl) (da_cons (de_var 1) (da_cons (de_var 8) (da_cons (de_opX ox_add de_int (de_call F_u_law_draw (hr.mono h_u_law_draw) (by rfl) (da_cons (de_var 0) (da_cons de_int da_nil)))) (da_cons (de_call F_u_law_draw (hr.mono h_u_law_draw) (by rfl) (da_cons (de_var 0) (da_cons de_int da_nil))) (da_cons de_int (da_cons de_int da_nil))))))))))))))))))))), data⟩

abbrev st_law : Stmt := top 28
def n_law : List Str := ["script", "pool", "lap", "letters", "corpus", "steps", "turn"]
theorem sc_law : FnScope n_law ["script"] (defScope st_law) := ⟨rfl, rfl, rfl, by decide +kernel, rfl, by decide +kernel, by decide +kernel⟩

theorem mk_law {k : Nat} {sp : DSp} (T : Txt mg) {s_u_law_pool : DSp} {k_u_law_pool : Nat} (F_u_law_pool : Def P w K mg base "_law_pool" k_u_law_pool ["script"] s_u_law_pool) (h_u_law_pool : k_u_law_pool ≤ k) {s_u_law_letters : DSp} {k_u_law_letters : Nat} (F_u_law_letters : Def P w K mg base "_law_letters" k_u_law_letters ["pool", "many"] s_u_law_letters) (h_u_law_letters : k_u_law_letters ≤ k) {s_u_law_draw : DSp} {k_u_law_draw : Nat} (F_u_law_draw : Def P w K mg base "_law_draw" k_u_law_draw ["pool", "many"] s_u_law_draw) (h_u_law_draw : k_u_law_draw ≤ k) {s_u_law_corpus : DSp} {k_u_law_corpus : Nat} (F_u_law_corpus : Def P w K mg base "_law_corpus" k_u_law_corpus ["pool", "letters", "most", "many"] s_u_law_corpus) (h_u_law_corpus : k_u_law_corpus ≤ k) {s_u_law_right : DSp} {k_u_law_right : Nat} (F_u_law_right : Def P w K mg base "_law_right" k_u_law_right ["letters", "corpus", "steps", "entry", "trained"] s_u_law_right) (h_u_law_right : k_u_law_right ≤ k) {s_u_law_sure : DSp} {k_u_law_sure : Nat} (F_u_law_sure : Def P w K mg base "_law_sure" k_u_law_sure ["pool"] s_u_law_sure) (h_u_law_sure : k_u_law_sure ≤ k) {s_u_law_wide : DSp} {k_u_law_wide : Nat} (F_u_law_wide : Def P w K mg base "_law_wide" k_u_law_wide ["pool", "letters"] s_u_law_wide) (h_u_law_wide : k_u_law_wide ≤ k) {f : Addr} {fd : FuncData} (F : Fun K "law" "law" st_law f fd) (len : ∀ ds M Q, sp ds M Q → ds.length = 1)
    (data : ∀ ds M Q, sp ds M Q → t_law s_u_law_pool s_u_law_letters s_u_law_draw s_u_law_corpus s_u_law_right s_u_law_sure s_u_law_wide (endsD M Q) (startD 7 ds) M) : FnOk P w K mg base CX0 (k + 1) f fd ["script"] (toSp ⟨P, w, K⟩ sp) :=
  fd_mk F sc_law len ⟨t_law s_u_law_pool s_u_law_letters s_u_law_draw s_u_law_corpus s_u_law_right s_u_law_sure s_u_law_wide, fun cdv A outer s H E hr => by
    have hu := hr.units
    have hp := @PassesOwn.never
    exact
    (dss_cons (ds_set (i := 1) sc_law.nd rfl (by first | exact Or.inl rfl | exact Or.inr rfl) (de_call F_u_law_pool (hr.mono h_u_law_pool) (by rfl) (da_cons (de_var 0) da_nil)))
    (dss_cons (ds_for hp rfl (di_range1 (by rfl) T.range (da_cons de_int da_nil)) (dg_name (i := 2) sc_law.nd rfl (by first | exact Or.inl rfl | exact Or.inr rfl))
      (dss_cons (ds_set (i := 3) sc_law.nd rfl (by first | exact Or.inl rfl | exact Or.inr rfl) (de_call F_u_law_letters (hr.mono h_u_law_letters) (by rfl) (da_cons (de_var 1) (da_cons (de_ix hu (de_lst (da_cons de_int (da_cons de_int (da_cons de_int (da_cons de_int (da_cons de_int da_nil)))))) (de_call F_u_law_draw (hr.mono h_u_law_draw) (by rfl) (da_cons (de_var 1) (da_cons de_int da_nil))) fun _ _ => rfl) da_nil))))
      (dss_cons (ds_set (i := 4) sc_law.nd rfl (by first | exact Or.inl rfl | exact Or.inr rfl) (de_call F_u_law_corpus (hr.mono h_u_law_corpus) (by rfl) (da_cons (de_var 1) (da_cons (de_var 3) (da_cons (de_ix hu (de_lst (da_cons de_int (da_cons de_int (da_cons de_int da_nil)))) (de_var 2) fun _ _ => rfl) (da_cons (de_opX ox_add de_int (de_call F_u_law_draw (hr.mono h_u_law_draw) (by rfl) (da_cons (de_var 1) (da_cons de_int da_nil)))) da_nil))))))
      (dss_cons (ds_set (i := 5) sc_law.nd rfl (by first | exact Or.inl rfl | exact Or.inr rfl) (de_ix hu (de_lst (da_cons de_int (da_cons de_int (da_cons de_int (da_cons de_int da_nil))))) (de_call F_u_law_draw (hr.mono h_u_law_draw) (by rfl) (da_cons (de_var 1) (da_cons de_int da_nil))) fun _ _ => rfl))
      (dss_one (ds_for hp rfl (di_range1 (by rfl) T.range (da_cons de_int da_nil)) (dg_name (i := 6) sc_law.nd rfl (by first | exact Or.inl rfl | exact Or.inr rfl))
        (dss_one (ds_if (dt_not (dt_val (de_call F_u_law_right (hr.mono h_u_law_right) (by rfl) (da_cons (de_var 3) (da_cons (de_var 4) (da_cons (de_var 5) (da_cons (de_call F_u_law_draw (hr.mono h_u_law_draw) (by rfl) (da_cons (de_var 1) (da_cons (de_callB cx_len (by rfl) T.len (by rfl) (da_cons (de_var 4) da_nil)) da_nil))) (da_cons (de_cmpX (ox_eq hu) rfl (de_var 6) de_int) da_nil))))))))
          (dss_one (ds_ret de_bl))
          dss_nil))))))))
    (dss_cons (ds_if (dt_not (dt_val (de_call F_u_law_sure (hr.mono h_u_law_sure) (by rfl) (da_cons (de_var 1) da_nil))))
      (dss_one (ds_ret de_bl))
      dss_nil)
    (dss_cons (ds_if (dt_cmpX (ox_eq hu) rfl (de_call F_u_law_draw (hr.mono h_u_law_draw) (by rfl) (da_cons (de_var 1) (da_cons de_int da_nil))) de_int)
      (dss_cons (ds_set (i := 3) sc_law.nd rfl (by first | exact Or.inl rfl | exact Or.inr rfl) (de_call F_u_law_letters (hr.mono h_u_law_letters) (by rfl) (da_cons (de_var 1) (da_cons (de_opX ox_add de_int (de_call F_u_law_draw (hr.mono h_u_law_draw) (by rfl) (da_cons (de_var 1) (da_cons de_int da_nil)))) da_nil))))
      (dss_one (ds_if (dt_not (dt_val (de_call F_u_law_right (hr.mono h_u_law_right) (by rfl) (da_cons (de_var 3) (da_cons (de_call F_u_law_wide (hr.mono h_u_law_wide) (by rfl) (da_cons (de_var 1) (da_cons (de_var 3) da_nil))) (da_cons de_int (da_cons (de_call F_u_law_draw (hr.mono h_u_law_draw) (by rfl) (da_cons (de_var 1) (da_cons de_int da_nil))) (da_cons de_bl da_nil))))))))
        (dss_one (ds_ret de_bl))
        dss_nil)))
      dss_nil)
    (dss_one (ds_ret (de_call F_u_law_sure (hr.mono h_u_law_sure) (by rfl) (da_cons (de_var 1) da_nil)))))))), data⟩

abbrev st_Margin___init__ : Stmt := inClass (top 10) 0
def n_Margin___init__ : List Str := ["self"]
theorem sc_Margin___init__ : FnScope n_Margin___init__ ["self"] (defScope st_Margin___init__) := ⟨rfl, rfl, rfl, by decide +kernel, rfl, by decide +kernel, by decide +kernel⟩

theorem mk_Margin___init__ {k : Nat} {sp : DSp} (T : Txt mg) {C_Margin : Addr} (I_Margin : Is_Margin K C_Margin) {f : Addr} {fd : FuncData} (F : Fun K "__init__" "Margin.__init__" st_Margin___init__ f fd) (len : ∀ ds M Q, sp ds M Q → ds.length = 1)
    (data : ∀ ds M Q, sp ds M Q → t_Margin___init__ C_Margin (endsD M Q) (startD 1 ds) M) : FnOk P w K mg base CX0 (k + 1) f fd ["self"] (toSp ⟨P, w, K⟩ sp) :=
  fd_mk F sc_Margin___init__ len ⟨t_Margin___init__ C_Margin, fun cdv A outer s H E hr => by
    have hu := hr.units
    have hp := @PassesOwn.never
    exact
    (dss_cons (ds_fld I_Margin.cl I_Margin.n_least (de_var 0) de_int)
    (dss_one (ds_fld I_Margin.cl I_Margin.n_greatest (de_var 0) de_non))), data⟩

abbrev st_Margin_narrow : Stmt := inClass (top 10) 1
def n_Margin_narrow : List Str := ["self", "slope", "base", "most"]
theorem sc_Margin_narrow : FnScope n_Margin_narrow ["self", "slope", "base"] (defScope st_Margin_narrow) := ⟨rfl, rfl, rfl, by decide +kernel, rfl, by decide +kernel, by decide +kernel⟩

theorem mk_Margin_narrow {k : Nat} {sp : DSp} (T : Txt mg) {C_Margin : Addr} (I_Margin : Is_Margin K C_Margin) {f : Addr} {fd : FuncData} (F : Fun K "narrow" "Margin.narrow" st_Margin_narrow f fd) (len : ∀ ds M Q, sp ds M Q → ds.length = 3)
    (data : ∀ ds M Q, sp ds M Q → t_Margin_narrow C_Margin (endsD M Q) (startD 4 ds) M) : FnOk P w K mg base CX0 (k + 1) f fd ["self", "slope", "base"] (toSp ⟨P, w, K⟩ sp) :=
  fd_mk F sc_Margin_narrow len ⟨t_Margin_narrow C_Margin, fun cdv A outer s H E hr => by
    have hu := hr.units
    have hp := @PassesOwn.never
    exact
    (dss_cons (ds_if (dt_cmpX ox_gt rfl (de_var 1) de_int)
      (dss_one (ds_fld I_Margin.cl I_Margin.n_least (de_var 0) (de_callB (cx_max2 rfl) (by rfl) T.max (by rfl) (da_cons (de_fld I_Margin.cl I_Margin.n_least (de_var 0)) (da_cons (de_unX ux_neg (de_opX ox_fdiv (de_var 2) (de_var 1))) da_nil)))))
      dss_nil)
    (dss_one (ds_if (dt_cmpX ox_lt rfl (de_var 1) de_int)
      (dss_cons (ds_set (i := 3) sc_Margin_narrow.nd rfl (by first | exact Or.inl rfl | exact Or.inr rfl) (de_opX ox_fdiv (de_var 2) (de_unX ux_neg (de_var 1))))
      (dss_one (ds_if (dw_or (dt_cmpX ox_isN rfl (de_fld I_Margin.cl I_Margin.n_greatest (de_var 0)) de_non) (dw_or1 (dt_cmpX ox_lt rfl (de_var 3) (de_fld I_Margin.cl I_Margin.n_greatest (de_var 0))))).dt
        (dss_one (ds_fld I_Margin.cl I_Margin.n_greatest (de_var 0) (de_var 3)))
        dss_nil)))
      dss_nil))), data⟩

end
end K

set_option Elab.async false
set_option linter.all false
set_option maxRecDepth 100000
set_option maxHeartbeats 4000000
/-! printed by gen.py: the end -/
namespace K
open PySem L2 DL
open PyProof.Rows hiding St signs inR

def spLaw (K : PySem.W.Frag) : Sp := fun vs H Q _ => ∃ (a : Addr) (ns : List Int), vs = [.ref a] ∧ SqL K H a (ns.map V.int) ∧ ns.length ≤ 63 ∧ ∀ H', Q (.bl true) H'
theorem law_sp {b : Bg} (vs : List V) (H : Hp) (Q : VK) (E : XK) (h : spLaw b.K vs H Q E) : toSp b sp_law vs H Q E := by
  obtain ⟨a, ns, rfl, hs, hl, q⟩ := h
  refine ⟨⟨H, [], []⟩, [.lst (ns.map D.int)], [], fun d _ => d = .bl true, ⟨fun _ _ e => e, rfl, List.nodup_nil, fun n a o e => by simp at e, fun q hq => by cases hq⟩, .cons (.lst hs (by simp) fun i d v e1 e2 => ?_) .nil, ⟨ns, rfl, hl, rfl, fun _ => rfl⟩, fun d M' e w' v H' _ _ r => ?_⟩
  · rw [List.getElem?_map] at e1 e2
    cases en : ns[i]? with
    | none =>
      rw [en] at e1
      cases e1
    | some n =>
      rw [en] at e1 e2
      cases e1
      cases e2
      exact .int n
  · subst e
    cases r
    exact q H'
theorem def_never {P : Program} {w : World} {K : PySem.W.Frag} {mg : Str → Option Value} {base : Heap} {x : Str} {ps : List Str} {f : Addr} {fd : FuncData} (hm : mg x = some (.ref f)) (hk : PySem.W.keepIn K (.ref f) = true) (hb : Binds K fd ps []) {sp : DSp} (no : ∀ ds M Q, ¬ sp ds M Q) :
    Def P w K mg base x 0 ps sp := ⟨f, fd, hm, hk, hb, ⟨fun vs H Q E ⟨_, ds, M, Q', _, _, q, _⟩ => (no ds M Q' q).elim, fun A outer s H args us vs Q E _ _ _ _ ⟨_, ds, M, Q', _, _, q, _⟩ => (no ds M Q' q).elim⟩⟩

theorem all_mk {l : PySem.W.OpenLaw} {w : World} {K : PySem.W.Frag} {h : Heap} {mg : Str → Option Value} {fa CSeamError C_Margin f1 f2 f3 f4 f5 f6 f7 f8 f9 f10 f11 f12 f13 f14 f15 f16 f17 f18 f19 f20 f21 f22 f23 f24 : Addr} (X : K.In h) (G : h.Ns mainGlobals mg) (hfa : mg "law" = some (.ref fa))
    {od1 an1 od2 an2 od3 an3 od4 an4 od5 an5 od6 an6 od7 an7 od8 an8 od9 an9 od10 an10 od11 an11 od12 an12 od13 an13 od14 an14 od15 an15 od16 an16 od17 an17 od18 an18 od19 an19 od20 an20 od21 an21 od22 an22 od23 an23 od24 an24 : Option Addr} {sl1 sl2 sl3 sl4 sl5 sl6 sl7 sl8 sl9 sl10 sl11 sl12 sl13 sl14 sl15 sl16 sl17 sl18 sl19 sl20 sl21 sl22 sl23 sl24 : Array (Option Value)} {oc1 kV1 dc1 pm1 cd1 ct1 oc2 kV2 dc2 pm2 cd2 ct2 oc3 kV3 dc3 pm3 cd3 ct3 oc4 kV4 dc4 pm4 cd4 ct4 oc5 kV5 dc5 pm5 cd5 ct5 oc6 kV6 dc6 pm6 cd6 ct6 oc7 kV7 dc7 pm7 cd7 ct7 oc8 kV8 dc8 pm8 cd8 ct8 oc9 kV9 dc9 pm9 cd9 ct9 oc10 kV10 dc10 pm10 cd10 ct10 oc11 kV11 dc11 pm11 cd11 ct11 oc12 kV12 dc12 pm12 cd12 ct12 oc13 kV13 dc13 pm13 cd13 ct13 oc14 kV14 dc14 pm14 cd14 ct14 oc15 kV15 dc15 pm15 cd15 ct15 oc16 kV16 dc16 pm16 cd16 ct16 oc17 kV17 dc17 pm17 cd17 ct17 oc18 kV18 dc18 pm18 cd18 ct18 oc19 kV19 dc19 pm19 cd19 ct19 oc20 kV20 dc20 pm20 cd20 ct20 oc21 kV21 dc21 pm21 cd21 ct21 oc22 kV22 dc22 pm22 cd22 ct22 oc23 kV23 dc23 pm23 cd23 ct23 oc24 kV24 dc24 pm24 cd24 ct24 : Value}
    (aCSeamError : PySem.W.nsIn K mainGlobals "SeamError" = some (some (.ref CSeamError)))
    (aOMargin : PySem.W.nsIn K mainGlobals "Margin" = some (some (.ref C_Margin))) (pgMargin : PySem.W.plainGet K C_Margin Str.empty = true) (hdMargin : PySem.W.hasDictIn K C_Margin = true) (poMargin : PySem.W.plainOver K C_Margin = true) (saMargin : PySem.W.findIn K (.ref C_Margin) "__setattr__" = some (some (.builtin "object.__setattr__"))) (mkMargin : PySem.W.makesIn K C_Margin = true) (kcMargin : PySem.W.keepIn K (.ref C_Margin) = true)
    (nMargin_greatest : PySem.W.findIn K (.ref C_Margin) "greatest" = some none)
    (nMargin_least : PySem.W.findIn K (.ref C_Margin) "least" = some none)
    (a1 : PySem.W.nsIn K mainGlobals "joined_once" = some (some (.ref f1))) (l1 : K.lookup f1 = some ⟨oc1, od1, .func (PySem.W.fnOf "joined_once" "joined_once" (defArgs st_joined_once) (defBody st_joined_once) (defScope st_joined_once) .none kV1 dc1 pm1 an1 cd1 ct1), sl1⟩) (c1 : PySem.W.codeIn K cd1 "joined_once" = true) (k1 : PySem.W.keepIn K (.ref f1) = true)
    (a2 : PySem.W.nsIn K mainGlobals "pair_counts" = some (some (.ref f2))) (l2 : K.lookup f2 = some ⟨oc2, od2, .func (PySem.W.fnOf "pair_counts" "pair_counts" (defArgs st_pair_counts) (defBody st_pair_counts) (defScope st_pair_counts) .none kV2 dc2 pm2 an2 cd2 ct2), sl2⟩) (c2 : PySem.W.codeIn K cd2 "pair_counts" = true) (k2 : PySem.W.keepIn K (.ref f2) = true)
    (a3 : PySem.W.nsIn K mainGlobals "chosen_pair" = some (some (.ref f3))) (l3 : K.lookup f3 = some ⟨oc3, od3, .func (PySem.W.fnOf "chosen_pair" "chosen_pair" (defArgs st_chosen_pair) (defBody st_chosen_pair) (defScope st_chosen_pair) .none kV3 dc3 pm3 an3 cd3 ct3), sl3⟩) (c3 : PySem.W.codeIn K cd3 "chosen_pair" = true) (k3 : PySem.W.keepIn K (.ref f3) = true)
    (a4 : PySem.W.nsIn K mainGlobals "trained_steps" = some (some (.ref f4))) (l4 : K.lookup f4 = some ⟨oc4, od4, .func (PySem.W.fnOf "trained_steps" "trained_steps" (defArgs st_trained_steps) (defBody st_trained_steps) (defScope st_trained_steps) .none kV4 dc4 pm4 an4 cd4 ct4), sl4⟩) (c4 : PySem.W.codeIn K cd4 "trained_steps" = true) (k4 : PySem.W.keepIn K (.ref f4) = true)
    (a5 : PySem.W.nsIn K mainGlobals "train_joins" = some (some (.ref f5))) (l5 : K.lookup f5 = some ⟨oc5, od5, .func (PySem.W.fnOf "train_joins" "train_joins" (defArgs st_train_joins) (defBody st_train_joins) (defScope st_train_joins) .none kV5 dc5 pm5 an5 cd5 ct5), sl5⟩) (c5 : PySem.W.codeIn K cd5 "train_joins" = true) (k5 : PySem.W.keepIn K (.ref f5) = true)
    (a6 : PySem.W.nsIn K mainGlobals "narrow_step" = some (some (.ref f6))) (l6 : K.lookup f6 = some ⟨oc6, od6, .func (PySem.W.fnOf "narrow_step" "narrow_step" (defArgs st_narrow_step) (defBody st_narrow_step) (defScope st_narrow_step) .none kV6 dc6 pm6 an6 cd6 ct6), sl6⟩) (c6 : PySem.W.codeIn K cd6 "narrow_step" = true) (k6 : PySem.W.keepIn K (.ref f6) = true)
    (a7 : PySem.W.nsIn K mainGlobals "margin_of" = some (some (.ref f7))) (l7 : K.lookup f7 = some ⟨oc7, od7, .func (PySem.W.fnOf "margin_of" "margin_of" (defArgs st_margin_of) (defBody st_margin_of) (defScope st_margin_of) .none kV7 dc7 pm7 an7 cd7 ct7), sl7⟩) (c7 : PySem.W.codeIn K cd7 "margin_of" = true) (k7 : PySem.W.keepIn K (.ref f7) = true)
    (a8 : PySem.W.nsIn K mainGlobals "_law_pool" = some (some (.ref f8))) (l8 : K.lookup f8 = some ⟨oc8, od8, .func (PySem.W.fnOf "_law_pool" "_law_pool" (defArgs st_u_law_pool) (defBody st_u_law_pool) (defScope st_u_law_pool) .none kV8 dc8 pm8 an8 cd8 ct8), sl8⟩) (c8 : PySem.W.codeIn K cd8 "_law_pool" = true) (k8 : PySem.W.keepIn K (.ref f8) = true)
    (a9 : PySem.W.nsIn K mainGlobals "_law_draw" = some (some (.ref f9))) (l9 : K.lookup f9 = some ⟨oc9, od9, .func (PySem.W.fnOf "_law_draw" "_law_draw" (defArgs st_u_law_draw) (defBody st_u_law_draw) (defScope st_u_law_draw) .none kV9 dc9 pm9 an9 cd9 ct9), sl9⟩) (c9 : PySem.W.codeIn K cd9 "_law_draw" = true) (k9 : PySem.W.keepIn K (.ref f9) = true)
    (a10 : PySem.W.nsIn K mainGlobals "_law_letters" = some (some (.ref f10))) (l10 : K.lookup f10 = some ⟨oc10, od10, .func (PySem.W.fnOf "_law_letters" "_law_letters" (defArgs st_u_law_letters) (defBody st_u_law_letters) (defScope st_u_law_letters) .none kV10 dc10 pm10 an10 cd10 ct10), sl10⟩) (c10 : PySem.W.codeIn K cd10 "_law_letters" = true) (k10 : PySem.W.keepIn K (.ref f10) = true)
    (a11 : PySem.W.nsIn K mainGlobals "_law_word" = some (some (.ref f11))) (l11 : K.lookup f11 = some ⟨oc11, od11, .func (PySem.W.fnOf "_law_word" "_law_word" (defArgs st_u_law_word) (defBody st_u_law_word) (defScope st_u_law_word) .none kV11 dc11 pm11 an11 cd11 ct11), sl11⟩) (c11 : PySem.W.codeIn K cd11 "_law_word" = true) (k11 : PySem.W.keepIn K (.ref f11) = true)
    (a12 : PySem.W.nsIn K mainGlobals "_law_count" = some (some (.ref f12))) (l12 : K.lookup f12 = some ⟨oc12, od12, .func (PySem.W.fnOf "_law_count" "_law_count" (defArgs st_u_law_count) (defBody st_u_law_count) (defScope st_u_law_count) .none kV12 dc12 pm12 an12 cd12 ct12), sl12⟩) (c12 : PySem.W.codeIn K cd12 "_law_count" = true) (k12 : PySem.W.keepIn K (.ref f12) = true)
    (a13 : PySem.W.nsIn K mainGlobals "_law_corpus" = some (some (.ref f13))) (l13 : K.lookup f13 = some ⟨oc13, od13, .func (PySem.W.fnOf "_law_corpus" "_law_corpus" (defArgs st_u_law_corpus) (defBody st_u_law_corpus) (defScope st_u_law_corpus) .none kV13 dc13 pm13 an13 cd13 ct13), sl13⟩) (c13 : PySem.W.codeIn K cd13 "_law_corpus" = true) (k13 : PySem.W.keepIn K (.ref f13) = true)
    (a14 : PySem.W.nsIn K mainGlobals "_law_wide" = some (some (.ref f14))) (l14 : K.lookup f14 = some ⟨oc14, od14, .func (PySem.W.fnOf "_law_wide" "_law_wide" (defArgs st_u_law_wide) (defBody st_u_law_wide) (defScope st_u_law_wide) .none kV14 dc14 pm14 an14 cd14 ct14), sl14⟩) (c14 : PySem.W.codeIn K cd14 "_law_wide" = true) (k14 : PySem.W.keepIn K (.ref f14) = true)
    (a15 : PySem.W.nsIn K mainGlobals "_law_joined" = some (some (.ref f15))) (l15 : K.lookup f15 = some ⟨oc15, od15, .func (PySem.W.fnOf "_law_joined" "_law_joined" (defArgs st_u_law_joined) (defBody st_u_law_joined) (defScope st_u_law_joined) .none kV15 dc15 pm15 an15 cd15 ct15), sl15⟩) (c15 : PySem.W.codeIn K cd15 "_law_joined" = true) (k15 : PySem.W.keepIn K (.ref f15) = true)
    (a16 : PySem.W.nsIn K mainGlobals "_law_rules" = some (some (.ref f16))) (l16 : K.lookup f16 = some ⟨oc16, od16, .func (PySem.W.fnOf "_law_rules" "_law_rules" (defArgs st_u_law_rules) (defBody st_u_law_rules) (defScope st_u_law_rules) .none kV16 dc16 pm16 an16 cd16 ct16), sl16⟩) (c16 : PySem.W.codeIn K cd16 "_law_rules" = true) (k16 : PySem.W.keepIn K (.ref f16) = true)
    (a17 : PySem.W.nsIn K mainGlobals "_law_number" = some (some (.ref f17))) (l17 : K.lookup f17 = some ⟨oc17, od17, .func (PySem.W.fnOf "_law_number" "_law_number" (defArgs st_u_law_number) (defBody st_u_law_number) (defScope st_u_law_number) .none kV17 dc17 pm17 an17 cd17 ct17), sl17⟩) (c17 : PySem.W.codeIn K cd17 "_law_number" = true) (k17 : PySem.W.keepIn K (.ref f17) = true)
    (a18 : PySem.W.nsIn K mainGlobals "_law_trains" = some (some (.ref f18))) (l18 : K.lookup f18 = some ⟨oc18, od18, .func (PySem.W.fnOf "_law_trains" "_law_trains" (defArgs st_u_law_trains) (defBody st_u_law_trains) (defScope st_u_law_trains) .none kV18 dc18 pm18 an18 cd18 ct18), sl18⟩) (c18 : PySem.W.codeIn K cd18 "_law_trains" = true) (k18 : PySem.W.keepIn K (.ref f18) = true)
    (a19 : PySem.W.nsIn K mainGlobals "_law_right" = some (some (.ref f19))) (l19 : K.lookup f19 = some ⟨oc19, od19, .func (PySem.W.fnOf "_law_right" "_law_right" (defArgs st_u_law_right) (defBody st_u_law_right) (defScope st_u_law_right) .none kV19 dc19 pm19 an19 cd19 ct19), sl19⟩) (c19 : PySem.W.codeIn K cd19 "_law_right" = true) (k19 : PySem.W.keepIn K (.ref f19) = true)
    (a20 : PySem.W.nsIn K mainGlobals "_law_is" = some (some (.ref f20))) (l20 : K.lookup f20 = some ⟨oc20, od20, .func (PySem.W.fnOf "_law_is" "_law_is" (defArgs st_u_law_is) (defBody st_u_law_is) (defScope st_u_law_is) .none kV20 dc20 pm20 an20 cd20 ct20), sl20⟩) (c20 : PySem.W.codeIn K cd20 "_law_is" = true) (k20 : PySem.W.keepIn K (.ref f20) = true)
    (a21 : PySem.W.nsIn K mainGlobals "_law_sure" = some (some (.ref f21))) (l21 : K.lookup f21 = some ⟨oc21, od21, .func (PySem.W.fnOf "_law_sure" "_law_sure" (defArgs st_u_law_sure) (defBody st_u_law_sure) (defScope st_u_law_sure) .none kV21 dc21 pm21 an21 cd21 ct21), sl21⟩) (c21 : PySem.W.codeIn K cd21 "_law_sure" = true) (k21 : PySem.W.keepIn K (.ref f21) = true)
    (a22 : PySem.W.nsIn K mainGlobals "law" = some (some (.ref f22))) (l22 : K.lookup f22 = some ⟨oc22, od22, .func (PySem.W.fnOf "law" "law" (defArgs st_law) (defBody st_law) (defScope st_law) .none kV22 dc22 pm22 an22 cd22 ct22), sl22⟩) (c22 : PySem.W.codeIn K cd22 "law" = true) (k22 : PySem.W.keepIn K (.ref f22) = true)
    (a23 : PySem.W.findIn K (.ref C_Margin) "__init__" = some (some (.ref f23))) (i23 : PySem.W.isFn K (.ref f23) = true) (l23 : K.lookup f23 = some ⟨oc23, od23, .func (PySem.W.fnOf "__init__" "Margin.__init__" (defArgs st_Margin___init__) (defBody st_Margin___init__) (defScope st_Margin___init__) .none kV23 dc23 pm23 an23 cd23 ct23), sl23⟩) (c23 : PySem.W.codeIn K cd23 "Margin.__init__" = true) (k23 : PySem.W.keepIn K (.ref f23) = true)
    (a24 : PySem.W.findIn K (.ref C_Margin) "narrow" = some (some (.ref f24))) (i24 : PySem.W.isFn K (.ref f24) = true) (l24 : K.lookup f24 = some ⟨oc24, od24, .func (PySem.W.fnOf "narrow" "Margin.narrow" (defArgs st_Margin_narrow) (defBody st_Margin_narrow) (defScope st_Margin_narrow) .none kV24 dc24 pm24 an24 cd24 ct24), sl24⟩) (c24 : PySem.W.codeIn K cd24 "Margin.narrow" = true) (k24 : PySem.W.keepIn K (.ref f24) = true)
    (zabs : PySem.W.nsIn K mainGlobals "abs" = some none)
    (zbool : PySem.W.nsIn K mainGlobals "bool" = some none)
    (zenumerate : PySem.W.nsIn K mainGlobals "enumerate" = some none)
    (zint : PySem.W.nsIn K mainGlobals "int" = some none)
    (zisinstance : PySem.W.nsIn K mainGlobals "isinstance" = some none)
    (zlen : PySem.W.nsIn K mainGlobals "len" = some none)
    (zlist : PySem.W.nsIn K mainGlobals "list" = some none)
    (zmax : PySem.W.nsIn K mainGlobals "max" = some none)
    (zrange : PySem.W.nsIn K mainGlobals "range" = some none)
    (zset : PySem.W.nsIn K mainGlobals "set" = some none)
    (zsorted : PySem.W.nsIn K mainGlobals "sorted" = some none)
    (ztuple : PySem.W.nsIn K mainGlobals "tuple" = some none)
    (zzip : PySem.W.nsIn K mainGlobals "zip" = some none)
    : ∃ fd : FuncData, (∀ (s : Shared) (v : Value), BindsTo s fd ⟨[v], []⟩ [("script", v)]) ∧ ∀ base : Heap, K.In base → base.Ns mainGlobals mg → FnOk l.prog w K mg base CX0 6 fa fd ["script"] (spLaw K) := by
  have e := hfa.symm.trans (PySem.W.mg_of X G a22)
  cases e
  have T : Txt mg := ⟨PySem.W.mg_none_of X G zabs, PySem.W.mg_none_of X G zbool, PySem.W.mg_none_of X G zenumerate, PySem.W.mg_none_of X G zint, PySem.W.mg_none_of X G zisinstance, PySem.W.mg_none_of X G zlen, PySem.W.mg_none_of X G zlist, PySem.W.mg_none_of X G zmax, PySem.W.mg_none_of X G zrange, PySem.W.mg_none_of X G zset, PySem.W.mg_none_of X G zsorted, PySem.W.mg_none_of X G ztuple, PySem.W.mg_none_of X G zzip⟩
  have F1 := fun_mk (st := st_joined_once) l1 c1 k1
  have b1 := F1.binds (ps := ["pieces", "left", "right"]) fun _ _ _ _ _ _ us hl => match us, hl with | [_, _, _], _ => rfl
  have F2 := fun_mk (st := st_pair_counts) l2 c2 k2
  have b2 := F2.binds (ps := ["rows", "counts", "taken"]) fun _ _ _ _ _ _ us hl => match us, hl with | [_, _, _], _ => rfl
  have F3 := fun_mk (st := st_chosen_pair) l3 c3 k3
  have b3 := F3.binds (ps := ["found"]) fun _ _ _ _ _ _ us hl => match us, hl with | [_], _ => rfl
  have F4 := fun_mk (st := st_trained_steps) l4 c4 k4
  have b4 := F4.binds (ps := ["corpus", "steps"]) fun _ _ _ _ _ _ us hl => match us, hl with | [_, _], _ => rfl
  have F5 := fun_mk (st := st_train_joins) l5 c5 k5
  have b5 := F5.binds (ps := ["letters", "name", "corpus", "steps"]) fun _ _ _ _ _ _ us hl => match us, hl with | [_, _, _, _], _ => rfl
  have F6 := fun_mk (st := st_narrow_step) l6 c6 k6
  have b6 := F6.binds (ps := ["margin", "pair", "slopes", "bases"]) fun _ _ _ _ _ _ us hl => match us, hl with | [_, _, _, _], _ => rfl
  have F7 := fun_mk (st := st_margin_of) l7 c7 k7
  have b7 := F7.binds (ps := ["letters", "corpus", "steps", "entry"]) fun _ _ _ _ _ _ us hl => match us, hl with | [_, _, _, _], _ => rfl
  have F8 := fun_mk (st := st_u_law_pool) l8 c8 k8
  have b8 := F8.binds (ps := ["script"]) fun _ _ _ _ _ _ us hl => match us, hl with | [_], _ => rfl
  have F9 := fun_mk (st := st_u_law_draw) l9 c9 k9
  have b9 := F9.binds (ps := ["pool", "many"]) fun _ _ _ _ _ _ us hl => match us, hl with | [_, _], _ => rfl
  have F10 := fun_mk (st := st_u_law_letters) l10 c10 k10
  have b10 := F10.binds (ps := ["pool", "many"]) fun _ _ _ _ _ _ us hl => match us, hl with | [_, _], _ => rfl
  have F11 := fun_mk (st := st_u_law_word) l11 c11 k11
  have b11 := F11.binds (ps := ["pool", "letters", "most"]) fun _ _ _ _ _ _ us hl => match us, hl with | [_, _, _], _ => rfl
  have F12 := fun_mk (st := st_u_law_count) l12 c12 k12
  have b12 := F12.binds (ps := ["pool", "same"]) fun _ _ _ _ _ _ us hl => match us, hl with | [_, _], _ => rfl
  have F13 := fun_mk (st := st_u_law_corpus) l13 c13 k13
  have b13 := F13.binds (ps := ["pool", "letters", "most", "many"]) fun _ _ _ _ _ _ us hl => match us, hl with | [_, _, _, _], _ => rfl
  have F14 := fun_mk (st := st_u_law_wide) l14 c14 k14
  have b14 := F14.binds (ps := ["pool", "letters"]) fun _ _ _ _ _ _ us hl => match us, hl with | [_, _], _ => rfl
  have F15 := fun_mk (st := st_u_law_joined) l15 c15 k15
  have b15 := F15.binds (ps := ["pieces", "pair"]) fun _ _ _ _ _ _ us hl => match us, hl with | [_, _], _ => rfl
  have F16 := fun_mk (st := st_u_law_rules) l16 c16 k16
  have b16 := F16.binds (ps := ["corpus", "entry", "count", "steps"]) fun _ _ _ _ _ _ us hl => match us, hl with | [_, _, _, _], _ => rfl
  have F17 := fun_mk (st := st_u_law_number) l17 c17 k17
  have b17 := F17.binds (ps := ["told"]) fun _ _ _ _ _ _ us hl => match us, hl with | [_], _ => rfl
  have F18 := fun_mk (st := st_u_law_trains) l18 c18 k18
  have b18 := F18.binds (ps := ["letters", "corpus", "entry", "count", "steps", "rules"]) fun _ _ _ _ _ _ us hl => match us, hl with | [_, _, _, _, _, _], _ => rfl
  have F19 := fun_mk (st := st_u_law_right) l19 c19 k19
  have b19 := F19.binds (ps := ["letters", "corpus", "steps", "entry", "trained"]) fun _ _ _ _ _ _ us hl => match us, hl with | [_, _, _, _, _], _ => rfl
  have F20 := fun_mk (st := st_u_law_is) l20 c20 k20
  have b20 := F20.binds (ps := ["letters", "corpus", "steps", "entry", "least", "greatest"]) fun _ _ _ _ _ _ us hl => match us, hl with | [_, _, _, _, _, _], _ => rfl
  have F21 := fun_mk (st := st_u_law_sure) l21 c21 k21
  have b21 := F21.binds (ps := ["pool"]) fun _ _ _ _ _ _ us hl => match us, hl with | [_], _ => rfl
  have F22 := fun_mk (st := st_law) l22 c22 k22
  have F23 := fun_mk (st := st_Margin___init__) l23 c23 k23
  have b23 := F23.binds (ps := ["self"]) fun _ _ _ _ _ _ us hl => match us, hl with | [_], _ => rfl
  have F24 := fun_mk (st := st_Margin_narrow) l24 c24 k24
  have b24 := F24.binds (ps := ["self", "slope", "base"]) fun _ _ _ _ _ _ us hl => match us, hl with | [_, _, _], _ => rfl
  have I_Margin : Is_Margin K C_Margin := ⟨⟨pgMargin, hdMargin, poMargin, saMargin⟩, nMargin_greatest, nMargin_least⟩
  refine ⟨PySem.W.fnOf "law" "law" (defArgs st_law) (defBody st_law) (defScope st_law) .none kV22 dc22 pm22 an22 cd22 ct22, fun s v => .of_eq rfl, fun base _ _ => ?_⟩
  have D_joined_once : Def l.prog w K mg base "joined_once" 1 ["pieces", "left", "right"] (sp_joined_once) := ⟨f1, _, PySem.W.mg_of X G a1, k1, b1, mk_joined_once T F1 (len_joined_once) (dat_joined_once)⟩
  have D_pair_counts : Def l.prog w K mg base "pair_counts" 1 ["rows", "counts", "taken"] (sp_pair_counts) := ⟨f2, _, PySem.W.mg_of X G a2, k2, b2, mk_pair_counts T F2 (len_pair_counts) (dat_pair_counts)⟩
  have D_chosen_pair : Def l.prog w K mg base "chosen_pair" 1 ["found"] (sp_chosen_pair) := ⟨f3, _, PySem.W.mg_of X G a3, k3, b3, mk_chosen_pair T F3 (len_chosen_pair) (dat_chosen_pair)⟩
  have D_u_law_pool : Def l.prog w K mg base "_law_pool" 1 ["script"] (sp_u_law_pool) := ⟨f8, _, PySem.W.mg_of X G a8, k8, b8, mk_u_law_pool T F8 (len_u_law_pool) (dat_u_law_pool)⟩
  have D_u_law_draw : Def l.prog w K mg base "_law_draw" 1 ["pool", "many"] (sp_u_law_draw) := ⟨f9, _, PySem.W.mg_of X G a9, k9, b9, mk_u_law_draw T F9 (len_u_law_draw) (dat_u_law_draw)⟩
  have D_u_law_joined : Def l.prog w K mg base "_law_joined" 1 ["pieces", "pair"] (sp_u_law_joined) := ⟨f15, _, PySem.W.mg_of X G a15, k15, b15, mk_u_law_joined T F15 (len_u_law_joined) (dat_u_law_joined)⟩
  have D_u_law_number : Def l.prog w K mg base "_law_number" 1 ["told"] (sp_u_law_number) := ⟨f17, _, PySem.W.mg_of X G a17, k17, b17, mk_u_law_number T F17 (len_u_law_number) (dat_u_law_number)⟩
  have D_Margin___init__ : IDef l.prog w K mg base C_Margin 1 ["self"] (sp_Margin___init__ C_Margin) := ⟨f23, _, ⟨mkMargin, a23, i23, kcMargin⟩, b23, mk_Margin___init__ T I_Margin F23 (len_Margin___init__ C_Margin) (dat_Margin___init__ C_Margin)⟩
  have D_Margin_narrow : MDef l.prog w K mg base C_Margin "narrow" 1 ["self", "slope", "base"] (sp_Margin_narrow C_Margin) := ⟨f24, _, ⟨a24, i24, k24⟩, b24, mk_Margin_narrow T I_Margin F24 (len_Margin_narrow C_Margin) (dat_Margin_narrow C_Margin)⟩
  have D_trained_steps : Def l.prog w K mg base "trained_steps" 2 ["corpus", "steps"] (sp_trained_steps) := ⟨f4, _, PySem.W.mg_of X G a4, k4, b4, mk_trained_steps T D_pair_counts (by decide) D_chosen_pair (by decide) D_joined_once (by decide) F4 (len_trained_steps) (dat_trained_steps)⟩
  have D_narrow_step : Def l.prog w K mg base "narrow_step" 2 ["margin", "pair", "slopes", "bases"] (sp_narrow_step C_Margin) := ⟨f6, _, PySem.W.mg_of X G a6, k6, b6, mk_narrow_step T I_Margin D_Margin_narrow (by decide) F6 (len_narrow_step C_Margin) (dat_narrow_step C_Margin)⟩
  have D_u_law_letters : Def l.prog w K mg base "_law_letters" 2 ["pool", "many"] (sp_u_law_letters) := ⟨f10, _, PySem.W.mg_of X G a10, k10, b10, mk_u_law_letters T D_u_law_draw (by decide) F10 (len_u_law_letters) (dat_u_law_letters)⟩
  have D_u_law_word : Def l.prog w K mg base "_law_word" 2 ["pool", "letters", "most"] (sp_u_law_word) := ⟨f11, _, PySem.W.mg_of X G a11, k11, b11, mk_u_law_word T D_u_law_draw (by decide) F11 (len_u_law_word) (dat_u_law_word)⟩
  have D_u_law_count : Def l.prog w K mg base "_law_count" 2 ["pool", "same"] (sp_u_law_count) := ⟨f12, _, PySem.W.mg_of X G a12, k12, b12, mk_u_law_count T D_u_law_draw (by decide) F12 (len_u_law_count) (dat_u_law_count)⟩
  have D_u_law_wide : Def l.prog w K mg base "_law_wide" 2 ["pool", "letters"] (sp_u_law_wide) := ⟨f14, _, PySem.W.mg_of X G a14, k14, b14, mk_u_law_wide T D_u_law_draw (by decide) F14 (len_u_law_wide) (dat_u_law_wide)⟩
  have D_u_law_rules : Def l.prog w K mg base "_law_rules" 2 ["corpus", "entry", "count", "steps"] (sp_u_law_rules) := ⟨f16, _, PySem.W.mg_of X G a16, k16, b16, mk_u_law_rules T D_u_law_joined (by decide) F16 (len_u_law_rules) (dat_u_law_rules)⟩
  have D_train_joins : Def l.prog w K mg base "train_joins" 3 ["letters", "name", "corpus", "steps"] (sp_train_joins) := ⟨f5, _, PySem.W.mg_of X G a5, k5, b5, mk_train_joins T D_trained_steps (by decide) F5 (len_train_joins) (dat_train_joins)⟩
  have D_margin_of : Def l.prog w K mg base "margin_of" 3 ["letters", "corpus", "steps", "entry"] (sp_margin_of) := ⟨f7, _, PySem.W.mg_of X G a7, k7, b7, mk_margin_of T I_Margin D_Margin___init__ (by decide) (PySem.W.mg_of X G aOMargin) D_trained_steps (by decide) D_narrow_step (by decide) D_pair_counts (by decide) D_joined_once (by decide) F7 (len_margin_of) (dat_margin_of C_Margin)⟩
  have D_u_law_corpus : Def l.prog w K mg base "_law_corpus" 3 ["pool", "letters", "most", "many"] (sp_u_law_corpus) := ⟨f13, _, PySem.W.mg_of X G a13, k13, b13, mk_u_law_corpus T D_u_law_word (by decide) D_u_law_draw (by decide) D_u_law_count (by decide) F13 (len_u_law_corpus) (dat_u_law_corpus)⟩
  have D_u_law_trains : Def l.prog w K mg base "_law_trains" 4 ["letters", "corpus", "entry", "count", "steps", "rules"] (sp_u_law_trains) := ⟨f18, _, PySem.W.mg_of X G a18, k18, b18, mk_u_law_trains T D_train_joins (by decide) (PySem.W.mg_of X G aCSeamError) F18 (len_u_law_trains) (dat_u_law_trains)⟩
  have D_u_law_is : Def l.prog w K mg base "_law_is" 4 ["letters", "corpus", "steps", "entry", "least", "greatest"] (sp_u_law_is) := ⟨f20, _, PySem.W.mg_of X G a20, k20, b20, mk_u_law_is T D_margin_of (by decide) D_u_law_number (by decide) (PySem.W.mg_of X G aCSeamError) F20 (len_u_law_is) (dat_u_law_is)⟩
  have D_u_law_right : Def l.prog w K mg base "_law_right" 5 ["letters", "corpus", "steps", "entry", "trained"] (sp_u_law_right) := ⟨f19, _, PySem.W.mg_of X G a19, k19, b19, mk_u_law_right T D_margin_of (by decide) D_u_law_number (by decide) D_u_law_rules (by decide) D_u_law_trains (by decide) (PySem.W.mg_of X G aCSeamError) F19 (len_u_law_right) (dat_u_law_right)⟩
  have D_u_law_sure : Def l.prog w K mg base "_law_sure" 5 ["pool"] (sp_u_law_sure) := ⟨f21, _, PySem.W.mg_of X G a21, k21, b21, mk_u_law_sure T D_u_law_letters (by decide) D_u_law_draw (by decide) D_u_law_is (by decide) F21 (len_u_law_sure) (dat_u_law_sure)⟩
  exact (mk_law (k := 5) T D_u_law_pool (by decide) D_u_law_letters (by decide) D_u_law_draw (by decide) D_u_law_corpus (by decide) D_u_law_right (by decide) D_u_law_sure (by decide) D_u_law_wide (by decide) F22 len_law dat_law).imp (law_sp (b := ⟨l.prog, w, K⟩))

theorem walk {l : PySem.W.OpenLaw} {q : Program} {loose : List Str} {XP : (Str → Option Value) → Heap → Prop} {YP : World → Heap → Prop} {d : DefRec} {K : Params → PySem.W.Frag} (hn : l.most = some 63) (hdf : d.params.defaults = [])
    (hY : ∀ (w : World) (h : Heap), YP w h → (K w.params).In h)
    (F : ∀ (w : World) (mg : Str → Option Value) (fa : Addr) (h : Heap), (K w.params).In h → h.Ns mainGlobals mg → mg d.name = some (.ref fa) →
      ∃ fd : FuncData, (∀ (s : Shared) (u : Value), BindsTo s fd ⟨[u], []⟩ [("script", u)]) ∧ ∀ base : Heap, (K w.params).In base → base.Ns mainGlobals mg → FnOk l.prog w (K w.params) mg base CX0 6 fa fd ["script"] (spLaw (K w.params))) :
    PySem.W.WalkO q loose XP YP l.row.toRowW d [] (fun f vs => PySem.call f vs) :=
  L2.walk_of (n := 63) (k := 6) (x := "script") (CX := fun _ => CX0) (sp := fun w => spLaw (K w.params)) hn (by decide) hdf ⟨rfl, by decide, by decide⟩ hY F (fun _ _ a ns hl _ hS => ⟨a, ns, rfl, hS, hl, fun _ => rfl⟩) fun _ _ _ _ _ z => z
end K
open PySem PySem.W PyProof.Rows
set_option maxRecDepth 100000 in
set_option maxHeartbeats 0 in
theorem PySem.Challenge.cw_seamsight_k88_whole_margins_holds : PySem.Challenge.rw_seamsight_k88_whole_margins.Holds := by
  w_on; o_law; k_head; (case hw => w_witness2)
  k_fill
  refine K.walk (l := PySem.Challenge.rw_seamsight_k88_whole_margins) rfl rfl (fun w h Y => PySem.W.kIn_of Y) ?F
  case F =>
    intro w mg fa h KX G hmg
    refine' K.all_mk KX G hmg ?aCSeamError ?aOMargin ?pgMargin ?hdMargin ?poMargin ?saMargin ?mkMargin ?kcMargin ?nMargin_greatest ?nMargin_least ?a1 ?l1 ?c1 ?k1 ?a2 ?l2 ?c2 ?k2 ?a3 ?l3 ?c3 ?k3 ?a4 ?l4 ?c4 ?k4 ?a5 ?l5 ?c5 ?k5 ?a6 ?l6 ?c6 ?k6 ?a7 ?l7 ?c7 ?k7 ?a8 ?l8 ?c8 ?k8 ?a9 ?l9 ?c9 ?k9 ?a10 ?l10 ?c10 ?k10 ?a11 ?l11 ?c11 ?k11 ?a12 ?l12 ?c12 ?k12 ?a13 ?l13 ?c13 ?k13 ?a14 ?l14 ?c14 ?k14 ?a15 ?l15 ?c15 ?k15 ?a16 ?l16 ?c16 ?k16 ?a17 ?l17 ?c17 ?k17 ?a18 ?l18 ?c18 ?k18 ?a19 ?l19 ?c19 ?k19 ?a20 ?l20 ?c20 ?k20 ?a21 ?l21 ?c21 ?k21 ?a22 ?l22 ?c22 ?k22 ?a23 ?i23 ?l23 ?c23 ?k23 ?a24 ?i24 ?l24 ?c24 ?k24 ?zabs ?zbool ?zenumerate ?zint ?zisinstance ?zlen ?zlist ?zmax ?zrange ?zset ?zsorted ?ztuple ?zzip
    (case aCSeamError => k_is)
    (case aOMargin => k_is)
    (case pgMargin => k_is)
    (case hdMargin => k_is)
    (case poMargin => k_is)
    (case saMargin => k_is)
    (case mkMargin => k_is)
    (case kcMargin => k_is)
    (case nMargin_greatest => k_is)
    (case nMargin_least => k_is)
    (case a1 => k_is)
    (case l1 => k_is)
    (case c1 => k_is)
    (case k1 => k_is)
    (case a2 => k_is)
    (case l2 => k_is)
    (case c2 => k_is)
    (case k2 => k_is)
    (case a3 => k_is)
    (case l3 => k_is)
    (case c3 => k_is)
    (case k3 => k_is)
    (case a4 => k_is)
    (case l4 => k_is)
    (case c4 => k_is)
    (case k4 => k_is)
    (case a5 => k_is)
    (case l5 => k_is)
    (case c5 => k_is)
    (case k5 => k_is)
    (case a6 => k_is)
    (case l6 => k_is)
    (case c6 => k_is)
    (case k6 => k_is)
    (case a7 => k_is)
    (case l7 => k_is)
    (case c7 => k_is)
    (case k7 => k_is)
    (case a8 => k_is)
    (case l8 => k_is)
    (case c8 => k_is)
    (case k8 => k_is)
    (case a9 => k_is)
    (case l9 => k_is)
    (case c9 => k_is)
    (case k9 => k_is)
    (case a10 => k_is)
    (case l10 => k_is)
    (case c10 => k_is)
    (case k10 => k_is)
    (case a11 => k_is)
    (case l11 => k_is)
    (case c11 => k_is)
    (case k11 => k_is)
    (case a12 => k_is)
    (case l12 => k_is)
    (case c12 => k_is)
    (case k12 => k_is)
    (case a13 => k_is)
    (case l13 => k_is)
    (case c13 => k_is)
    (case k13 => k_is)
    (case a14 => k_is)
    (case l14 => k_is)
    (case c14 => k_is)
    (case k14 => k_is)
    (case a15 => k_is)
    (case l15 => k_is)
    (case c15 => k_is)
    (case k15 => k_is)
    (case a16 => k_is)
    (case l16 => k_is)
    (case c16 => k_is)
    (case k16 => k_is)
    (case a17 => k_is)
    (case l17 => k_is)
    (case c17 => k_is)
    (case k17 => k_is)
    (case a18 => k_is)
    (case l18 => k_is)
    (case c18 => k_is)
    (case k18 => k_is)
    (case a19 => k_is)
    (case l19 => k_is)
    (case c19 => k_is)
    (case k19 => k_is)
    (case a20 => k_is)
    (case l20 => k_is)
    (case c20 => k_is)
    (case k20 => k_is)
    (case a21 => k_is)
    (case l21 => k_is)
    (case c21 => k_is)
    (case k21 => k_is)
    (case a22 => k_is)
    (case l22 => k_is)
    (case c22 => k_is)
    (case k22 => k_is)
    (case a23 => k_is)
    (case i23 => k_is)
    (case l23 => k_is)
    (case c23 => k_is)
    (case k23 => k_is)
    (case a24 => k_is)
    (case i24 => k_is)
    (case l24 => k_is)
    (case c24 => k_is)
    (case k24 => k_is)
    (case zabs => k_is)
    (case zbool => k_is)
    (case zenumerate => k_is)
    (case zint => k_is)
    (case zisinstance => k_is)
    (case zlen => k_is)
    (case zlist => k_is)
    (case zmax => k_is)
    (case zrange => k_is)
    (case zset => k_is)
    (case zsorted => k_is)
    (case ztuple => k_is)
    (case zzip => k_is)

