import PyProof.Rows.All
import Wide.All
import OpenK.AllK
import Wide.FinOn
import HandS.ForExc
import HandS.Comp
import HandS.Dict
import HandS.Iter
import HandS.Text
import KE.KDictKeyed
import KE.KeyNested
import HandS.NoneIn
import HandS.TupAny
import HandS.IsInst
import PyProof.StrBlock2
import PyProof.ListStr
import HandS.DictComp
import HandS.WordsExc
import KE.SortData
import KE.KDictCopyH
import KE.KDictSum
import HandS.SetTxt0
import HandS.Set
import HandS.SetFor
import HandS.Strs
import HandS.TryOnly
import PySem.Challenge.RW_seamsight_k87_whole_training
set_option Elab.async false
set_option linter.all false
set_option maxRecDepth 100000
set_option maxHeartbeats 2000000
/-! DLCore: a data layer over HandS. Values are told as data (D): tuples, frozen lists and frozen dicts stand inline, lists and dicts and instances that may still change stand in a store (List MO) and are named by their number. -/
namespace DL
open PySem L2

/-! ### data -/
inductive D where
  | non | bl (b : Bool) | int (i : Int) | str (x : Str)
  | tup (ds : List D) | lst (ds : List D)
  | dk (kvs : List (Key × D)) | dn (kvs : List (NestedKey × D))
  | ref (n : Nat)
  | ty (n : String)
  deriving Inhabited
/-- what may change -/
inductive MO where
  | lst (ds : List D) | dk (kvs : List (Key × D)) | dn (kvs : List (NestedKey × D)) | ins (C : Addr) (fs : List (Str × D))
abbrev Store := List MO
abbrev Env' := List (Option D)

mutual
def D.bel (n : Nat) : D → Prop
  | .non => True | .bl _ => True | .int _ => True | .str _ => True | .ty _ => True
  | .tup ds => belows n ds
  | .lst ds => belows n ds
  | .dk kvs => belowK n kvs
  | .dn kvs => belowN n kvs
  | .ref k => k < n
def belows (n : Nat) : List D → Prop
  | [] => True
  | d :: r => d.bel n ∧ belows n r
def belowK (n : Nat) : List (Key × D) → Prop
  | [] => True
  | p :: r => p.2.bel n ∧ belowK n r
def belowN (n : Nat) : List (NestedKey × D) → Prop
  | [] => True
  | p :: r => p.2.bel n ∧ belowN n r
end
theorem belows_iff {n : Nat} {ds : List D} : belows n ds ↔ ∀ d ∈ ds, d.bel n := by
  induction ds with
  | nil => simp [belows]
  | cons d r ih => simp [belows, ih]
theorem belowK_iff {n : Nat} {ds : List (Key × D)} : belowK n ds ↔ ∀ d ∈ ds, d.2.bel n := by
  induction ds with
  | nil => simp [belowK]
  | cons d r ih => simp [belowK, ih]
theorem belowN_iff {n : Nat} {ds : List (NestedKey × D)} : belowN n ds ↔ ∀ d ∈ ds, d.2.bel n := by
  induction ds with
  | nil => simp [belowN]
  | cons d r ih => simp [belowN, ih]
def MO.bel (n : Nat) : MO → Prop
  | .lst ds => belows n ds
  | .dk kvs => belowK n kvs
  | .dn kvs => belowN n kvs
  | .ins _ fs => ∀ p ∈ fs, p.2.bel n

mutual
def kD : NestedKey → D
  | .none => .non
  | .num i => .int i
  | .text x => .str x
  | .tup ks => .tup (kDs ks)
def kDs : List NestedKey → List D
  | [] => []
  | k :: r => kD k :: kDs r
end
theorem kDs_eq (ks : List NestedKey) : kDs ks = ks.map kD := by
  induction ks with
  | nil => rfl
  | cons k r ih => rw [kDs, ih]; rfl

/-! ### worlds -/
structure Bg where
  P : Program
  wd : World
  K : PySem.W.Frag
/-- F: what is frozen; as: where the store's objects stand; fr: what others hold meanwhile -/
structure Wd where
  F : Hp
  as : List Addr
  fr : List (Addr × HO)
structure Wd.Le (w w' : Wd) : Prop where
  F : ∀ a o, w.F a = some o → w'.F a = some o
  as : w.as <+: w'.as
  fr : w'.fr = w.fr
theorem Wd.Le.refl (w : Wd) : w.Le w := ⟨fun _ _ h => h, List.prefix_rfl, rfl⟩
theorem Wd.Le.trans {a b c : Wd} (h : a.Le b) (g : b.Le c) : a.Le c := ⟨fun x o e => g.F x o (h.F x o e), h.as.trans g.as, g.fr.trans h.fr⟩

/-- the entries of a dict with nested keys, at a -/
def dnP (b : Bg) (a : Addr) (xs : List (NestedKey × Addr × Value)) (h : Heap) : Prop :=
  ∃ o es ep, h.get? a = some o ∧ o.ExactDict ∧ o.data = .dict es ep ∧ es.toList = xs.map (entryOfKey (nestedKind b.P b.wd)) ∧ (xs.map (·.1)).Nodup ∧ xs.length ≤ sizeLine ∧ (a == sysModules) = false ∧ ∀ x ∈ xs, x.1.depth ≤ 8
def dnO (b : Bg) (a : Addr) (xs : List (NestedKey × Addr × Value)) : HO := .ext (dnP b a xs)

theorem rd_mono {F F' : Hp} (h : ∀ a o, F a = some o → F' a = some o) {a : Addr} {u : HO} (r : Rd F a u) : Rd F' a u := by
  rcases r with r | ⟨o, r⟩
  · exact .inl (h _ _ r)
  · exact .inr ⟨o, h _ _ r⟩
theorem sqL_mono {K : PySem.W.Frag} {F F' : Hp} (h : ∀ a o, F a = some o → F' a = some o) {a : Addr} {xs : List V} (r : SqL K F a xs) : SqL K F' a xs := by
  rcases r with r | r
  · exact .inl (rd_mono h r)
  · exact .inr r
theorem sqT_mono {K : PySem.W.Frag} {F F' : Hp} (h : ∀ a o, F a = some o → F' a = some o) {a : Addr} {xs : List V} (r : SqT K F a xs) : SqT K F' a xs := by
  rcases r with r | r
  · exact .inl (rd_mono h r)
  · exact .inr r

inductive Rel (b : Bg) (w : Wd) : D → V → Prop
  | non : Rel b w .non .non
  | bl (x : Bool) : Rel b w (.bl x) (.bl x)
  | int (i : Int) : Rel b w (.int i) (.int i)
  | str (x : Str) : Rel b w (.str x) (.str x)
  | tup {a : Addr} {vs : List V} {ds : List D} : SqT b.K w.F a vs → ds.length = vs.length → (∀ (i : Nat) (d : D) (v : V), ds[i]? = some d → vs[i]? = some v → Rel b w d v) → Rel b w (.tup ds) (.ref a)
  | lst {a : Addr} {vs : List V} {ds : List D} : SqL b.K w.F a vs → ds.length = vs.length → (∀ (i : Nat) (d : D) (v : V), ds[i]? = some d → vs[i]? = some v → Rel b w d v) → Rel b w (.lst ds) (.ref a)
  | dk {a : Addr} {kvs : List (Key × V)} {ds : List (Key × D)} : Rd w.F a (.dK kvs) → ds.map (·.1) = kvs.map (·.1) → (∀ (i : Nat) (d : Key × D) (v : Key × V), ds[i]? = some d → kvs[i]? = some v → Rel b w d.2 v.2) → Rel b w (.dk ds) (.ref a)
  | dn {a : Addr} {xs : List (NestedKey × Addr × Value)} {f : Nat → V} {ds : List (NestedKey × D)} : w.F a = some (dnO b a xs) → ds.map (·.1) = xs.map (·.1) → (∀ (i : Nat) (x : NestedKey × Addr × Value), xs[i]? = some x → RelV (f i) x.2.2) →
      (∀ (i : Nat) (x : NestedKey × Addr × Value), xs[i]? = some x → Rel b w (kD x.1) (.ref x.2.1)) → (∀ (i : Nat) (d : NestedKey × D), ds[i]? = some d → Rel b w d.2 (f i)) → Rel b w (.dn ds) (.ref a)
  | ref {n : Nat} {a : Addr} : w.as[n]? = some a → Rel b w (.ref n) (.ref a)
  | ty (n : String) : Rel b w (.ty n) (.ty n)
def RelL (b : Bg) (w : Wd) (ds : List D) (vs : List V) : Prop := ds.length = vs.length ∧ ∀ (i : Nat) (d : D) (v : V), ds[i]? = some d → vs[i]? = some v → Rel b w d v

theorem pre_get {α : Type} {l l' : List α} (h : l <+: l') {n : Nat} {a : α} (e : l[n]? = some a) : l'[n]? = some a := by
  obtain ⟨r, rfl⟩ := h
  rw [List.getElem?_append_left (List.getElem?_eq_some_iff.mp e).1]
  exact e
/-- more is frozen, the store has grown (whatever others hold) -/
structure Wd.Le0 (w w' : Wd) : Prop where
  F : ∀ a o, w.F a = some o → w'.F a = some o
  as : w.as <+: w'.as
theorem Wd.Le.le0 {w w' : Wd} (h : w.Le w') : w.Le0 w' := ⟨h.F, h.as⟩
theorem Wd.Le0.trans {a b c : Wd} (h : a.Le0 b) (g : b.Le0 c) : a.Le0 c := ⟨fun x o e => g.F x o (h.F x o e), h.as.trans g.as⟩
theorem Wd.Le0.refl (a : Wd) : a.Le0 a := ⟨fun _ _ h => h, List.prefix_rfl⟩
theorem Rel.mono0 {b : Bg} {w w' : Wd} (h : w.Le0 w') {d : D} {v : V} (r : Rel b w d v) : Rel b w' d v := by
  induction r with
  | non => exact .non
  | bl x => exact .bl x
  | int i => exact .int i
  | str x => exact .str x
  | tup s l _ ih => exact .tup (sqT_mono h.F s) l ih
  | lst s l _ ih => exact .lst (sqL_mono h.F s) l ih
  | dk s l _ ih => exact .dk (rd_mono h.F s) l ih
  | dn s l k _ _ ih1 ih2 => exact .dn (h.F _ _ s) l k ih1 ih2
  | ref e => exact .ref (pre_get h.as e)
  | ty n => exact .ty n
theorem Rel.mono {b : Bg} {w w' : Wd} (h : w.Le w') {d : D} {v : V} (r : Rel b w d v) : Rel b w' d v := r.mono0 h.le0
theorem RelL.mono0 {b : Bg} {w w' : Wd} (h : w.Le0 w') {ds : List D} {vs : List V} (r : RelL b w ds vs) : RelL b w' ds vs := ⟨r.1, fun i d v e1 e2 => (r.2 i d v e1 e2).mono0 h⟩
theorem RelL.mono {b : Bg} {w w' : Wd} (h : w.Le w') {ds : List D} {vs : List V} (r : RelL b w ds vs) : RelL b w' ds vs := ⟨r.1, fun i d v e1 e2 => (r.2 i d v e1 e2).mono h⟩
theorem RelL.nil {b : Bg} {w : Wd} : RelL b w [] [] := ⟨rfl, fun i d v e => by simp at e⟩
theorem RelL.cons {b : Bg} {w : Wd} {d : D} {v : V} {ds : List D} {vs : List V} (r : Rel b w d v) (rs : RelL b w ds vs) : RelL b w (d :: ds) (v :: vs) := by
  refine ⟨by simp [rs.1], fun i d' v' e1 e2 => ?_⟩
  cases i with
  | zero =>
    simp at e1 e2
    subst e1; subst e2
    exact r
  | succ i =>
    simp at e1 e2
    exact rs.2 i d' v' e1 e2
theorem RelL.append {b : Bg} {w : Wd} {ds es : List D} {vs us : List V} (r : RelL b w ds vs) (q : RelL b w es us) : RelL b w (ds ++ es) (vs ++ us) := by
  refine ⟨by simp [r.1, q.1], fun i d v e1 e2 => ?_⟩
  by_cases hi : i < ds.length
  · rw [List.getElem?_append_left hi] at e1
    rw [List.getElem?_append_left (by rw [← r.1]; exact hi)] at e2
    exact r.2 i d v e1 e2
  · rw [List.getElem?_append_right (Nat.le_of_not_lt hi)] at e1
    rw [List.getElem?_append_right (by rw [← r.1]; exact Nat.le_of_not_lt hi), ← r.1] at e2
    exact q.2 _ d v e1 e2
theorem RelL.get {b : Bg} {w : Wd} {ds : List D} {vs : List V} (r : RelL b w ds vs) {i : Nat} {d : D} (e : ds[i]? = some d) : ∃ v, vs[i]? = some v ∧ Rel b w d v := by
  have hi : i < vs.length := by rw [← r.1]; exact (List.getElem?_eq_some_iff.mp e).1
  exact ⟨vs[i], List.getElem?_eq_getElem hi, r.2 i d _ e (List.getElem?_eq_getElem hi)⟩
theorem RelL.take {b : Bg} {w : Wd} {ds : List D} {vs : List V} (n : Nat) (r : RelL b w ds vs) : RelL b w (ds.take n) (vs.take n) := by
  refine ⟨by simp [r.1], fun i d v e1 e2 => ?_⟩
  rw [List.getElem?_take] at e1 e2
  split at e1
  · rename_i h
    rw [if_pos h] at e2
    exact r.2 i d v e1 e2
  · cases e1
theorem RelL.drop {b : Bg} {w : Wd} {ds : List D} {vs : List V} (n : Nat) (r : RelL b w ds vs) : RelL b w (ds.drop n) (vs.drop n) := by
  refine ⟨by simp [r.1], fun i d v e1 e2 => ?_⟩
  rw [List.getElem?_drop] at e1 e2
  exact r.2 _ d v e1 e2
theorem RelL.set {b : Bg} {w : Wd} {ds : List D} {vs : List V} {d : D} {v : V} (n : Nat) (r : RelL b w ds vs) (q : Rel b w d v) : RelL b w (ds.set n d) (vs.set n v) := by
  refine ⟨by simp [r.1], fun i d' v' e1 e2 => ?_⟩
  rw [List.getElem?_set] at e1 e2
  by_cases hn : n = i
  · subst hn
    rw [if_pos rfl] at e1 e2
    split at e1
    · rename_i h
      rw [if_pos (by rw [← r.1]; exact h)] at e2
      cases e1; cases e2
      exact q
    · cases e1
  · rw [if_neg hn] at e1 e2
    exact r.2 i d' v' e1 e2

/-! ### what stands in a cell -/
inductive CellR (b : Bg) (w : Wd) (a : Addr) : MO → HO → Prop
  | lst {ds : List D} {vs : List V} : RelL b w ds vs → CellR b w a (.lst ds) (.lst vs)
  | dk {ds : List (Key × D)} {kvs : List (Key × V)} : ds.map (·.1) = kvs.map (·.1) → (∀ (i : Nat) (d : Key × D) (v : Key × V), ds[i]? = some d → kvs[i]? = some v → Rel b w d.2 v.2) → CellR b w a (.dk ds) (.dK kvs)
  | dn {xs : List (NestedKey × Addr × Value)} {f : Nat → V} {ds : List (NestedKey × D)} : ds.map (·.1) = xs.map (·.1) → (∀ (i : Nat) (x : NestedKey × Addr × Value), xs[i]? = some x → RelV (f i) x.2.2) →
      (∀ (i : Nat) (x : NestedKey × Addr × Value), xs[i]? = some x → Rel b w (kD x.1) (.ref x.2.1)) → (∀ (i : Nat) (d : NestedKey × D), ds[i]? = some d → Rel b w d.2 (f i)) → CellR b w a (.dn ds) (dnO b a xs)
  | ins {C dx : Addr} {ds : List (Str × D)} {fs : List (Str × V)} : ds.map (·.1) = fs.map (·.1) → (∀ (i : Nat) (d : Str × D) (v : Str × V), ds[i]? = some d → fs[i]? = some v → Rel b w d.2 v.2) → CellR b w a (.ins C ds) (.ins C dx fs)
theorem CellR.mono0 {b : Bg} {w w' : Wd} (h : w.Le0 w') {a : Addr} {o : MO} {u : HO} (r : CellR b w a o u) : CellR b w' a o u := by
  cases r with
  | lst q => exact .lst (q.mono0 h)
  | dk e q => exact .dk e fun i d v e1 e2 => (q i d v e1 e2).mono0 h
  | dn e k q1 q2 => exact .dn e k (fun i x e => (q1 i x e).mono0 h) fun i d e1 => (q2 i d e1).mono0 h
  | ins e q => exact .ins e fun i d v e1 e2 => (q i d v e1 e2).mono0 h
theorem CellR.mono {b : Bg} {w w' : Wd} (h : w.Le w') {a : Addr} {o : MO} {u : HO} (r : CellR b w a o u) : CellR b w' a o u := r.mono0 h.le0
structure RM (b : Bg) (w : Wd) (M : Store) (H : Hp) : Prop where
  sub : ∀ a o, w.F a = some o → H a = some o
  len : w.as.length = M.length
  nd : w.as.Nodup
  cell : ∀ (n : Nat) (a : Addr) (o : MO), w.as[n]? = some a → M[n]? = some o → w.F a = none ∧ ∃ u, H a = some u ∧ CellR b w a o u
  fr : ∀ p ∈ w.fr, H p.1 = some p.2 ∧ w.F p.1 = none ∧ p.1 ∉ w.as
def EnvR (b : Bg) (w : Wd) (ρ : Env') (σ : St) : Prop := ρ.length = σ.length ∧ ∀ (i : Nat) (d : D), ρ[i]? = some (some d) → ∃ v, σ[i]? = some (some v) ∧ Rel b w d v
structure RS (b : Bg) (w : Wd) (ρ : Env') (M : Store) (σ : St) (H : Hp) : Prop where
  m : RM b w M H
  e : EnvR b w ρ σ
theorem EnvR.mono0 {b : Bg} {w w' : Wd} (h : w.Le0 w') {ρ : Env'} {σ : St} (r : EnvR b w ρ σ) : EnvR b w' ρ σ := ⟨r.1, fun i d e => let ⟨v, e1, q⟩ := r.2 i d e; ⟨v, e1, q.mono0 h⟩⟩
theorem EnvR.mono {b : Bg} {w w' : Wd} (h : w.Le w') {ρ : Env'} {σ : St} (r : EnvR b w ρ σ) : EnvR b w' ρ σ := ⟨r.1, fun i d e => let ⟨v, e1, q⟩ := r.2 i d e; ⟨v, e1, q.mono h⟩⟩
theorem EnvR.set {b : Bg} {w : Wd} {ρ : Env'} {σ : St} (r : EnvR b w ρ σ) {i : Nat} {d : D} {v : V} (q : Rel b w d v) : EnvR b w (ρ.set i (some d)) (σ.set i (some v)) := by
  refine ⟨by simp [r.1], fun j d' e => ?_⟩
  rw [List.getElem?_set] at e ⊢
  by_cases hn : i = j
  · subst hn
    rw [if_pos rfl] at e ⊢
    split at e
    · rename_i h
      rw [if_pos (by rw [← r.1]; exact h)]
      cases e
      exact ⟨v, rfl, q⟩
    · cases e
  · rw [if_neg hn] at e ⊢
    exact r.2 j d' e
theorem EnvR.forget {b : Bg} {w : Wd} {ρ ρ' : Env'} {σ : St} (r : EnvR b w ρ σ) (hl : ρ'.length = ρ.length) (h : ∀ (i : Nat) (d : D), ρ'[i]? = some (some d) → ρ[i]? = some (some d)) : EnvR b w ρ' σ :=
  ⟨hl.trans r.1, fun i d e => r.2 i d (h i d e)⟩

/-- a new object, frozen at once -/
def Wd.froz (w : Wd) (p : Addr) (o : HO) : Wd := ⟨upd w.F p o, w.as, w.fr⟩
theorem Wd.froz_le {w : Wd} {p : Addr} {o : HO} (h : w.F p = none) : w.Le (w.froz p o) := ⟨fun a u e => by
  show upd w.F p o a = some u
  rw [upd_ne (ne_of_none e h)]
  exact e, List.prefix_rfl, rfl⟩
theorem RM.nF {b : Bg} {w : Wd} {M : Store} {H : Hp} (r : RM b w M H) {p : Addr} (h : H p = none) : w.F p = none := by
  cases q : w.F p with
  | none => rfl
  | some o => rw [r.sub p o q] at h; cases h
theorem RM.nas {b : Bg} {w : Wd} {M : Store} {H : Hp} (r : RM b w M H) {p : Addr} (h : H p = none) : p ∉ w.as := fun hp => by
  obtain ⟨n, hn, e⟩ := List.mem_iff_getElem.mp hp
  have hm : n < M.length := by rw [← r.len]; exact hn
  obtain ⟨_, u, e1, _⟩ := r.cell n p M[n] (by rw [List.getElem?_eq_getElem hn, e]) (List.getElem?_eq_getElem hm)
  rw [e1] at h; cases h
theorem RM.nfr {b : Bg} {w : Wd} {M : Store} {H : Hp} (r : RM b w M H) {p : Addr} (h : H p = none) : ∀ q ∈ w.fr, q.1 ≠ p := fun q hq e => by
  have := (r.fr q hq).1
  rw [e, h] at this
  cases this
theorem RM.froz {b : Bg} {w : Wd} {M : Store} {H : Hp} (r : RM b w M H) {p : Addr} {o : HO} (h : H p = none) : RM b (w.froz p o) M (upd H p o) := by
  have hF := r.nF h
  have hle : w.Le (w.froz p o) := Wd.froz_le hF
  refine ⟨fun a u e => ?_, r.len, r.nd, fun n a m e1 e2 => ?_, fun q hq => ?_⟩
  · have e : upd w.F p o a = some u := e
    by_cases ha : a = p
    · subst ha
      rw [upd_same] at e ⊢
      exact e
    · rw [upd_ne ha] at e ⊢
      exact r.sub a u e
  · obtain ⟨f, u, e3, c⟩ := r.cell n a m e1 e2
    have ha : a ≠ p := ne_of_none e3 h
    exact ⟨by show upd w.F p o a = none; rw [upd_ne ha]; exact f, u, by rw [upd_ne ha]; exact e3, c.mono hle⟩
  · obtain ⟨e1, e2, e3⟩ := r.fr q hq
    have ha : q.1 ≠ p := ne_of_none e1 h
    exact ⟨by rw [upd_ne ha]; exact e1, by show upd w.F p o q.1 = none; rw [upd_ne ha]; exact e2, e3⟩
/-- a new object in the store -/
def Wd.put (w : Wd) (p : Addr) : Wd := ⟨w.F, w.as ++ [p], w.fr⟩
theorem Wd.put_le {w : Wd} {p : Addr} : w.Le (w.put p) := ⟨fun _ _ h => h, List.prefix_append _ _, rfl⟩
theorem RM.put {b : Bg} {w : Wd} {M : Store} {H : Hp} (r : RM b w M H) {p : Addr} {o : HO} {m : MO} (h : H p = none) (c : CellR b (w.put p) p m o) : RM b (w.put p) (M ++ [m]) (upd H p o) := by
  have hle : w.Le (w.put p) := Wd.put_le
  refine ⟨fun a u e => ?_, by show (w.as ++ [p]).length = _; simp [r.len], ?_, fun n a m' e1 e2 => ?_, fun q hq => ?_⟩
  · have e : w.F a = some u := e
    have := r.sub a u e
    rw [upd_ne (ne_of_none this h)]
    exact this
  · show (w.as ++ [p]).Nodup
    rw [List.nodup_append]
    exact ⟨r.nd, by simp, fun a ha b hb e => by simp at hb; subst hb; subst e; exact r.nas h ha⟩
  · have e1 : (w.as ++ [p])[n]? = some a := e1
    by_cases hn : n < w.as.length
    · rw [List.getElem?_append_left hn] at e1
      rw [List.getElem?_append_left (by rw [← r.len]; exact hn)] at e2
      obtain ⟨f, u, e3, c'⟩ := r.cell n a m' e1 e2
      exact ⟨f, u, by rw [upd_ne (ne_of_none e3 h)]; exact e3, c'.mono hle⟩
    · rw [List.getElem?_append_right (Nat.le_of_not_lt hn)] at e1
      rw [List.getElem?_append_right (by rw [← r.len]; exact Nat.le_of_not_lt hn), ← r.len] at e2
      have hz : n - w.as.length = 0 := by
        have := (List.getElem?_eq_some_iff.mp e1).1
        simp at this
        omega
      rw [hz] at e1 e2
      simp at e1 e2
      subst e1; subst e2
      exact ⟨r.nF h, o, upd_same, c⟩
  · obtain ⟨e1, e2, e3⟩ := r.fr q hq
    have ha : q.1 ≠ p := ne_of_none e1 h
    exact ⟨by rw [upd_ne ha]; exact e1, e2, by show q.1 ∉ w.as ++ [p]; simp [e3, ha]⟩
/-- a cell is written -/
theorem RM.write {b : Bg} {w : Wd} {M : Store} {H : Hp} (r : RM b w M H) {n : Nat} {a : Addr} {o : HO} {m : MO} (e : w.as[n]? = some a) (c : CellR b w a m o) : RM b w (M.set n m) (upd H a o) := by
  have hn : n < w.as.length := (List.getElem?_eq_some_iff.mp e).1
  have hM : n < M.length := by rw [← r.len]; exact hn
  obtain ⟨fa, ua, ea, _⟩ := r.cell n a M[n] e (List.getElem?_eq_getElem hM)
  refine ⟨fun x u ex => ?_, by simp [r.len], r.nd, fun k x m' e1 e2 => ?_, fun q hq => ?_⟩
  · have hx : x ≠ a := fun z => by subst z; rw [fa] at ex; cases ex
    rw [upd_ne hx]
    exact r.sub x u ex
  · by_cases hk : k = n
    · subst hk
      rw [e] at e1; cases e1
      rw [List.getElem?_set_self hM] at e2; cases e2
      exact ⟨fa, o, upd_same, c⟩
    · rw [List.getElem?_set_ne (Ne.symm hk)] at e2
      obtain ⟨f, u, e3, c'⟩ := r.cell k x m' e1 e2
      have hx : x ≠ a := fun z => by
        subst z
        obtain ⟨h1, g1⟩ := List.getElem?_eq_some_iff.mp e
        obtain ⟨h2, g2⟩ := List.getElem?_eq_some_iff.mp e1
        exact hk ((List.getElem_inj r.nd).mp (g2.trans g1.symm))
      exact ⟨f, u, by rw [upd_ne hx]; exact e3, c'⟩
  · obtain ⟨e1, e2, e3⟩ := r.fr q hq
    have ha : q.1 ≠ a := fun z => e3 (by rw [z]; exact List.mem_of_getElem? e)
    exact ⟨by rw [upd_ne ha]; exact e1, e2, e3⟩

/-! ### forgetting and freezing -/
theorem at2 {α β : Type} {l : List α} {r : List β} (h : l.length = r.length) {i : Nat} {a : α} (e : l[i]? = some a) : ∃ c, r[i]? = some c := by
  have hi := (List.getElem?_eq_some_iff.mp e).1
  rw [h] at hi
  exact ⟨_, List.getElem?_eq_getElem hi⟩
theorem len_of_map {α β γ : Type} {f : α → γ} {g : β → γ} {l : List α} {r : List β} (h : l.map f = r.map g) : l.length = r.length := by
  have := congrArg List.length h
  simpa using this
theorem belows_get {n : Nat} {ds : List D} (h : belows n ds) {i : Nat} {d : D} (e : ds[i]? = some d) : d.bel n := belows_iff.mp h d (List.mem_of_getElem? e)
theorem Rel.bel {b : Bg} {w : Wd} {d : D} {v : V} (r : Rel b w d v) : d.bel w.as.length := by
  induction r with
  | non => trivial
  | bl x => trivial
  | int i => trivial
  | str x => trivial
  | tup s l q ih =>
    refine belows_iff.mpr fun d hd => ?_
    obtain ⟨i, e⟩ := List.getElem?_of_mem hd
    obtain ⟨v, ev⟩ := at2 l e
    exact ih i d v e ev
  | lst s l q ih =>
    refine belows_iff.mpr fun d hd => ?_
    obtain ⟨i, e⟩ := List.getElem?_of_mem hd
    obtain ⟨v, ev⟩ := at2 l e
    exact ih i d v e ev
  | dk s l q ih =>
    refine belowK_iff.mpr fun d hd => ?_
    obtain ⟨i, e⟩ := List.getElem?_of_mem hd
    obtain ⟨v, ev⟩ := at2 (len_of_map l) e
    exact ih i d v e ev
  | dn s l k q1 q2 ih1 ih2 =>
    refine belowN_iff.mpr fun d hd => ?_
    obtain ⟨i, e⟩ := List.getElem?_of_mem hd
    exact ih2 i d e
  | ref e => exact (List.getElem?_eq_some_iff.mp e).1
  | ty n => trivial
/-- what is below n is the same where the store is cut there and more is frozen -/
theorem Rel.cut {b : Bg} {w w' : Wd} (hF : ∀ a o, w.F a = some o → w'.F a = some o) {n : Nat} (ha : w'.as = w.as.take n) {d : D} {v : V} (r : Rel b w d v) (h : d.bel n) : Rel b w' d v := by
  induction r with
  | non => exact .non
  | bl x => exact .bl x
  | int i => exact .int i
  | str x => exact .str x
  | tup s l _ ih => exact .tup (sqT_mono hF s) l fun i d v e1 e2 => ih i d v e1 e2 (belows_get h e1)
  | lst s l _ ih => exact .lst (sqL_mono hF s) l fun i d v e1 e2 => ih i d v e1 e2 (belows_get h e1)
  | dk s l _ ih => exact .dk (rd_mono hF s) l fun i d v e1 e2 => ih i d v e1 e2 (belowK_iff.mp h d (List.mem_of_getElem? e1))
  | dn s l k _ _ ih1 ih2 =>
    refine .dn (hF _ _ s) l k (fun i x e => ih1 i x e ?_) fun i d e1 => ih2 i d e1 (belowN_iff.mp h d (List.mem_of_getElem? e1))
    exact kD_bel x.1
  | ref e =>
    refine .ref ?_
    have h : _ < n := h
    rw [ha, List.getElem?_take, if_pos h]
    exact e
  | ty n => exact .ty n
where
  kD_bel : ∀ (k : NestedKey) {n : Nat}, (kD k).bel n
    | .none, _ => by simp [kD, D.bel]
    | .num _, _ => by simp [kD, D.bel]
    | .text _, _ => by simp [kD, D.bel]
    | .tup ks, n => by
      rw [kD]
      show belows n (kDs ks)
      exact kDs_bel ks
  kDs_bel : ∀ (ks : List NestedKey) {n : Nat}, belows n (kDs ks)
    | [], _ => by simp [kDs, belows]
    | k :: r, n => by
      rw [kDs, belows]
      exact ⟨kD_bel k, kDs_bel r⟩

/-- d', where what stands from number n on in the store M is frozen -/
inductive Fz (M : Store) (n : Nat) : D → D → Prop
  | keep {d : D} : d.bel n → Fz M n d d
  | cl {k : Nat} {ds ds' : List D} : n ≤ k → M[k]? = some (.lst ds) → ds'.length = ds.length → (∀ (i : Nat) (d d' : D), ds[i]? = some d → ds'[i]? = some d' → Fz M n d d') → Fz M n (.ref k) (.lst ds')
  | cdk {k : Nat} {ds ds' : List (Key × D)} : n ≤ k → M[k]? = some (.dk ds) → ds'.map (·.1) = ds.map (·.1) → (∀ (i : Nat) (d d' : Key × D), ds[i]? = some d → ds'[i]? = some d' → Fz M n d.2 d'.2) → Fz M n (.ref k) (.dk ds')
  | cdn {k : Nat} {ds ds' : List (NestedKey × D)} : n ≤ k → M[k]? = some (.dn ds) → ds'.map (·.1) = ds.map (·.1) → (∀ (i : Nat) (d d' : NestedKey × D), ds[i]? = some d → ds'[i]? = some d' → Fz M n d.2 d'.2) → Fz M n (.ref k) (.dn ds')
  | tup {ds ds' : List D} : ds'.length = ds.length → (∀ (i : Nat) (d d' : D), ds[i]? = some d → ds'[i]? = some d' → Fz M n d d') → Fz M n (.tup ds) (.tup ds')
  | lst {ds ds' : List D} : ds'.length = ds.length → (∀ (i : Nat) (d d' : D), ds[i]? = some d → ds'[i]? = some d' → Fz M n d d') → Fz M n (.lst ds) (.lst ds')
/-- where the store is cut at n, all behind frozen -/
def Wd.cut (w : Wd) (H : Hp) (n : Nat) : Wd := ⟨fun a => match w.F a with | some o => some o | none => if a ∈ w.as.drop n then H a else none, w.as.take n, w.fr⟩
theorem Wd.cut_F {w : Wd} {H : Hp} {n : Nat} : ∀ a o, w.F a = some o → (w.cut H n).F a = some o := fun a o e => by
  show (match w.F a with | some o => some o | none => _) = _
  rw [e]
theorem Wd.cut_at {w : Wd} {H : Hp} {n k : Nat} {a : Addr} (hf : w.F a = none) (e : w.as[k]? = some a) (h : n ≤ k) : (w.cut H n).F a = H a := by
  show (match w.F a with | some o => some o | none => if a ∈ w.as.drop n then H a else none) = _
  rw [hf]
  have : a ∈ w.as.drop n := by
    refine List.mem_of_getElem? (i := k - n) ?_
    rw [List.getElem?_drop]
    rw [show n + (k - n) = k by omega]
    exact e
  rw [if_pos this]
theorem RM.cut {b : Bg} {w : Wd} {M1 G : Store} {H : Hp} (r : RM b w (M1 ++ G) H) (hb : ∀ (i : Nat) (o : MO), M1[i]? = some o → o.bel M1.length) : RM b (w.cut H M1.length) M1 H := by
  have hlen : w.as.length = M1.length + G.length := by rw [r.len, List.length_append]
  refine ⟨fun a o e => ?_, ?_, ?_, fun n a o e1 e2 => ?_, fun q hq => ?_⟩
  · have e : (match w.F a with | some o => some o | none => if a ∈ w.as.drop M1.length then H a else none) = some o := e
    cases q : w.F a with
    | some u =>
      simp only [q] at e
      cases e
      exact r.sub a _ q
    | none =>
      simp only [q] at e
      by_cases hm : a ∈ w.as.drop M1.length
      · rw [if_pos hm] at e
        exact e
      · rw [if_neg hm] at e
        cases e
  · show (w.as.take M1.length).length = _
    rw [List.length_take, hlen]; omega
  · exact List.Nodup.sublist (List.take_sublist _ _) r.nd
  · have e1 : (w.as.take M1.length)[n]? = some a := e1
    rw [List.getElem?_take] at e1
    split at e1
    · rename_i hn
      obtain ⟨f, u, e3, c⟩ := r.cell n a o e1 (by rw [List.getElem?_append_left hn]; exact e2)
      refine ⟨?_, u, e3, ?_⟩
      · show (match w.F a with | some o => some o | none => if a ∈ w.as.drop M1.length then H a else none) = none
        rw [f]
        refine if_neg fun hm => ?_
        obtain ⟨j, hj, ej⟩ := List.mem_iff_getElem.mp hm
        rw [List.getElem_drop] at ej
        obtain ⟨h1, g1⟩ := List.getElem?_eq_some_iff.mp e1
        have := (List.getElem_inj r.nd).mp (ej.trans g1.symm)
        omega
      · have hbo := hb n o e2
        have cutR : ∀ {d : D} {v : V}, Rel b w d v → d.bel M1.length → Rel b (w.cut H M1.length) d v := fun q h => q.cut Wd.cut_F rfl h
        cases c with
        | lst q => exact .lst ⟨q.1, fun i d v e1 e2 => cutR (q.2 i d v e1 e2) (belows_get hbo e1)⟩
        | dk e q => exact .dk e fun i d v e1 e2 => cutR (q i d v e1 e2) (belowK_iff.mp hbo d (List.mem_of_getElem? e1))
        | dn e k q1 q2 => exact .dn e k (fun i x e => cutR (q1 i x e) (Rel.cut.kD_bel x.1)) fun i d e1 => cutR (q2 i d e1) (belowN_iff.mp hbo d (List.mem_of_getElem? e1))
        | ins e q => exact .ins e fun i d v e1 e2 => cutR (q i d v e1 e2) (hbo d (List.mem_of_getElem? e1))
    · cases e1
  · obtain ⟨e1, e2, e3⟩ := r.fr q hq
    refine ⟨e1, ?_, fun hm => e3 (List.mem_of_mem_take hm)⟩
    show (match w.F q.1 with | some o => some o | none => if q.1 ∈ w.as.drop M1.length then H q.1 else none) = none
    rw [e2]
    exact if_neg fun hm => e3 (List.mem_of_mem_drop hm)
theorem Fz.sound {b : Bg} {w : Wd} {M : Store} {H : Hp} (r : RM b w M H) {n : Nat} {d d' : D} (z : Fz M n d d') : ∀ {v : V}, Rel b w d v → Rel b (w.cut H n) d' v := by
  have at_ : ∀ {α : Type} {l l' : List α}, l'.length = l.length → ∀ {i : Nat} {d' : α}, l'[i]? = some d' → ∃ d, l[i]? = some d := fun {α l l'} hl {i d'} e => by
    have hi : i < l.length := by rw [← hl]; exact (List.getElem?_eq_some_iff.mp e).1
    exact ⟨_, List.getElem?_eq_getElem hi⟩
  induction z with
  | keep h => exact fun q => q.cut Wd.cut_F rfl h
  | cl hk hM hl _ ih =>
    intro v q
    cases q with
    | ref e =>
      obtain ⟨f, u, e3, c⟩ := r.cell _ _ _ e hM
      cases c with
      | lst q =>
        refine .lst (.inl (.inl ((Wd.cut_at f e hk).trans e3))) (hl.trans q.1) fun i d' v e1 e2 => ?_
        obtain ⟨d, ed⟩ := at_ hl e1
        exact ih i d d' ed e1 (q.2 i d v ed e2)
  | cdk hk hM hl _ ih =>
    intro v q
    cases q with
    | ref e =>
      obtain ⟨f, u, e3, c⟩ := r.cell _ _ _ e hM
      cases c with
      | dk k q =>
        refine .dk (.inl ((Wd.cut_at f e hk).trans e3)) (hl.trans k) fun i d' v e1 e2 => ?_
        obtain ⟨d, ed⟩ := at_ (len_of_map hl) e1
        exact ih i d d' ed e1 (q i d v ed e2)
  | cdn hk hM hl _ ih =>
    intro v q
    cases q with
    | ref e =>
      obtain ⟨f, u, e3, c⟩ := r.cell _ _ _ e hM
      cases c with
      | dn k kv q1 q2 =>
        refine .dn ((Wd.cut_at f e hk).trans e3) (hl.trans k) kv (fun i x e => (q1 i x e).cut Wd.cut_F rfl (Rel.cut.kD_bel x.1)) fun i d' e1 => ?_
        obtain ⟨d, ed⟩ := at_ (len_of_map hl) e1
        exact ih i d d' ed e1 (q2 i d ed)
  | tup hl _ ih =>
    intro v q
    cases q with
    | tup s l q =>
      refine .tup (sqT_mono Wd.cut_F s) (hl.trans l) fun i d' v e1 e2 => ?_
      obtain ⟨d, ed⟩ := at_ hl e1
      exact ih i d d' ed e1 (q i d v ed e2)
  | lst hl _ ih =>
    intro v q
    cases q with
    | lst s l q =>
      refine .lst (sqL_mono Wd.cut_F s) (hl.trans l) fun i d' v e1 e2 => ?_
      obtain ⟨d, ed⟩ := at_ hl e1
      exact ih i d d' ed e1 (q i d v ed e2)
theorem CellR.bel {b : Bg} {w : Wd} {a : Addr} {o : MO} {u : HO} (c : CellR b w a o u) : o.bel w.as.length := by
  cases c with
  | lst q =>
    refine belows_iff.mpr fun d hd => ?_
    obtain ⟨i, e⟩ := List.getElem?_of_mem hd
    obtain ⟨v, _, r⟩ := q.get e
    exact r.bel
  | dk k q =>
    refine belowK_iff.mpr fun d hd => ?_
    obtain ⟨i, e⟩ := List.getElem?_of_mem hd
    obtain ⟨v, ev⟩ := at2 (len_of_map k) e
    exact (q i d v e ev).bel
  | dn k kv q1 q2 =>
    refine belowN_iff.mpr fun d hd => ?_
    obtain ⟨i, e⟩ := List.getElem?_of_mem hd
    exact (q2 i d e).bel
  | ins k q =>
    intro d hd
    obtain ⟨i, e⟩ := List.getElem?_of_mem hd
    obtain ⟨v, ev⟩ := at2 (len_of_map k) e
    exact (q i d v e ev).bel
theorem RM.bel {b : Bg} {w : Wd} {M : Store} {H : Hp} (r : RM b w M H) {i : Nat} {o : MO} (e : M[i]? = some o) : o.bel M.length := by
  have hi : i < w.as.length := by rw [r.len]; exact (List.getElem?_eq_some_iff.mp e).1
  obtain ⟨_, u, _, c⟩ := r.cell i w.as[i] o (List.getElem?_eq_getElem hi) e
  have := c.bel
  rw [r.len] at this
  exact this
mutual
theorem D.bel_mono {n m : Nat} (h : n ≤ m) : ∀ (d : D), d.bel n → d.bel m
  | .non, _ => trivial
  | .bl _, _ => trivial
  | .int _, _ => trivial
  | .str _, _ => trivial
  | .tup ds, q => belows_mono h ds q
  | .lst ds, q => belows_mono h ds q
  | .dk ds, q => belowK_mono h ds q
  | .dn ds, q => belowN_mono h ds q
  | .ref k, q => Nat.lt_of_lt_of_le q h
  | .ty _, _ => trivial
theorem belows_mono {n m : Nat} (h : n ≤ m) : ∀ (ds : List D), belows n ds → belows m ds
  | [], _ => trivial
  | d :: r, q => ⟨D.bel_mono h d q.1, belows_mono h r q.2⟩
theorem belowK_mono {n m : Nat} (h : n ≤ m) : ∀ (ds : List (Key × D)), belowK n ds → belowK m ds
  | [], _ => trivial
  | p :: r, q => ⟨D.bel_mono h p.2 q.1, belowK_mono h r q.2⟩
theorem belowN_mono {n m : Nat} (h : n ≤ m) : ∀ (ds : List (NestedKey × D)), belowN n ds → belowN m ds
  | [], _ => trivial
  | p :: r, q => ⟨D.bel_mono h p.2 q.1, belowN_mono h r q.2⟩
end
theorem MO.bel_mono {n m : Nat} (h : n ≤ m) {o : MO} (q : o.bel n) : o.bel m := by
  cases o with
  | lst ds => exact belows_mono h ds q
  | dk ds => exact belowK_mono h ds q
  | dn ds => exact belowN_mono h ds q
  | ins C fs => exact fun p hp => D.bel_mono h _ (q p hp)
/-- what a def hands back: as it is, or with what it made behind the store's first cells dropped or frozen -/
def RetOk (M0 : Store) (d : D) (M2 : Store) (Q : D → Store → Prop) : Prop :=
  Q d M2 ∨ ∃ d' M1 G, M2 = M1 ++ G ∧ M0.length ≤ M1.length ∧ (∀ (i : Nat) (o : MO), M1[i]? = some o → M0[i]? = some o ∨ o.bel M1.length) ∧ Fz M2 M1.length d d' ∧ Q d' M1
/-- the same at the end of a turn, for the names -/
def TurnOk (M0 : Store) (ρ : Env') (M2 : Store) (Q : Env' → Store → Prop) : Prop :=
  Q ρ M2 ∨ ∃ ρ' M1 G, M2 = M1 ++ G ∧ M0.length ≤ M1.length ∧ (∀ (i : Nat) (o : MO), M1[i]? = some o → M0[i]? = some o ∨ o.bel M1.length) ∧ ρ'.length = ρ.length ∧ (∀ (i : Nat) (d' : D), ρ'[i]? = some (some d') → ∃ d, ρ[i]? = some (some d) ∧ Fz M2 M1.length d d') ∧ Q ρ' M1
theorem cut_le {b : Bg} {w w' : Wd} {H : Hp} {n : Nat} (h : w.Le w') (hn : w.as.length ≤ n) : w.Le (w'.cut H n) := by
  refine ⟨fun a o e => Wd.cut_F a o (h.F a o e), ?_, h.fr⟩
  show w.as <+: w'.as.take n
  obtain ⟨r, e⟩ := h.as
  rw [← e, List.take_append, List.take_of_length_le hn]
  exact List.prefix_append _ _
theorem RetOk.sound {b : Bg} {w w' : Wd} {M0 M2 : Store} {H0 H : Hp} {d : D} {v : V} {Q : D → Store → Prop} (h : RetOk M0 d M2 Q) (r0 : RM b w M0 H0) (le : w.Le w') (r : RM b w' M2 H) (q : Rel b w' d v) :
    ∃ d' M1 w3, w.Le w3 ∧ RM b w3 M1 H ∧ Rel b w3 d' v ∧ Q d' M1 := by
  rcases h with h | ⟨d', M1, G, e, hl, hb, z, h⟩
  · exact ⟨d, M2, w', le, r, q, h⟩
  · subst e
    have hb' : ∀ (i : Nat) (o : MO), M1[i]? = some o → o.bel M1.length := fun i o e => (hb i o e).elim (fun e0 => MO.bel_mono hl (r0.bel e0)) id
    exact ⟨d', M1, w'.cut H M1.length, cut_le (b := b) le (by rw [r0.len]; exact hl), r.cut hb', z.sound r q, h⟩
theorem TurnOk.sound {b : Bg} {w w' : Wd} {M0 M2 : Store} {H0 H : Hp} {ρ : Env'} {σ : St} {Q : Env' → Store → Prop} (h : TurnOk M0 ρ M2 Q) (r0 : RM b w M0 H0) (le : w.Le w') (r : RS b w' ρ M2 σ H) :
    ∃ ρ' M1 w3, w.Le w3 ∧ RS b w3 ρ' M1 σ H ∧ Q ρ' M1 := by
  rcases h with h | ⟨ρ', M1, G, e, hl, hb, hρ, z, h⟩
  · exact ⟨ρ, M2, w', le, r, h⟩
  · subst e
    have hb' : ∀ (i : Nat) (o : MO), M1[i]? = some o → o.bel M1.length := fun i o e => (hb i o e).elim (fun e0 => MO.bel_mono hl (r0.bel e0)) id
    refine ⟨ρ', M1, w'.cut H M1.length, cut_le (b := b) le (by rw [r0.len]; exact hl), ⟨r.m.cut hb', hρ.trans r.e.1, fun i d' e => ?_⟩, h⟩
    obtain ⟨d, ed, zz⟩ := z i d' e
    obtain ⟨v, ev, q⟩ := r.e.2 i d ed
    exact ⟨v, ev, zz.sound r.m q⟩
end DL

set_option Elab.async false
set_option linter.all false
set_option maxRecDepth 100000
set_option maxHeartbeats 2000000
/-! DLRules: data readings, and HandS's rules told over them. -/
namespace DL
open PySem L2

/-! ### data readings -/
abbrev DK := D → Store → Prop
abbrev DTE := Env' → Store → DK → Prop
abbrev DTT := Env' → Store → (Bool → Store → Prop) → Prop
abbrev DTA := Env' → Store → (List D → Store → Prop) → Prop
structure DEnds where
  nx : Env' → Store → Prop
  rt : DK
  bk : Env' → Store → Prop := fun _ _ => False
  ct : Env' → Store → Prop := fun _ _ => False
abbrev DTS := DEnds → Env' → Store → Prop
abbrev DTG := D → Env' → Store → (Env' → Store → Prop) → Prop
abbrev DTGs := List D → Env' → Store → (Env' → Store → Prop) → Prop

abbrev bgX (X : Cx) : Bg := ⟨X.prog, X.w, X.K⟩
def upE (b : Bg) (t : DTE) : TE := fun σ H Q => ∃ (w : Wd) (ρ : Env') (M : Store) (Q' : DK), RS b w ρ M σ H ∧ t ρ M Q' ∧
  ∀ d M', Q' d M' → ∀ (w' : Wd) (v : V) (H' : Hp), w.Le w' → RS b w' ρ M' σ H' → Rel b w' d v → Q v H'
def upT (b : Bg) (t : DTT) : TT := fun σ H Q => ∃ (w : Wd) (ρ : Env') (M : Store) (Q' : Bool → Store → Prop), RS b w ρ M σ H ∧ t ρ M Q' ∧
  ∀ c M', Q' c M' → ∀ (w' : Wd) (H' : Hp), w.Le w' → RS b w' ρ M' σ H' → Q c H'
def upA (b : Bg) (t : DTA) : TA := fun σ H Q => ∃ (w : Wd) (ρ : Env') (M : Store) (Q' : List D → Store → Prop), RS b w ρ M σ H ∧ t ρ M Q' ∧
  ∀ ds M', Q' ds M' → ∀ (w' : Wd) (vs : List V) (H' : Hp), w.Le w' → RS b w' ρ M' σ H' → RelL b w' ds vs → Q vs H'
def NxR (b : Bg) (w : Wd) (q : Env' → Store → Prop) (n : St → Hp → Prop) : Prop := ∀ ρ' M', q ρ' M' → ∀ (w' : Wd) (σ' : St) (H' : Hp), w.Le w' → RS b w' ρ' M' σ' H' → n σ' H'
structure EndsR (b : Bg) (w : Wd) (D' : DEnds) (D : Ends) : Prop where
  nx : NxR b w D'.nx D.nx
  bk : NxR b w D'.bk D.bk
  ct : NxR b w D'.ct D.ct
  rt : ∀ d M', D'.rt d M' → ∀ (w' : Wd) (v : V) (H' : Hp), w.Le w' → RM b w' M' H' → Rel b w' d v → D.rt v H'
def upS (b : Bg) (t : DTS) : TS := fun D σ H => ∃ (w : Wd) (ρ : Env') (M : Store) (D' : DEnds), RS b w ρ M σ H ∧ t D' ρ M ∧ EndsR b w D' D
def upG (b : Bg) (t : DTG) : TG := fun v σ H Q => ∃ (w : Wd) (ρ : Env') (M : Store) (d : D) (Q' : Env' → Store → Prop), RS b w ρ M σ H ∧ Rel b w d v ∧ t d ρ M Q' ∧ NxR b w Q' Q
def upGs (b : Bg) (t : DTGs) : TGs := fun vs σ H Q => ∃ (w : Wd) (ρ : Env') (M : Store) (ds : List D) (Q' : Env' → Store → Prop), RS b w ρ M σ H ∧ RelL b w ds vs ∧ t ds ρ M Q' ∧ NxR b w Q' Q
theorem NxR.mono {b : Bg} {w w1 : Wd} {q : Env' → Store → Prop} {n : St → Hp → Prop} (h : NxR b w q n) (le : w.Le w1) : NxR b w1 q n := fun ρ M q w' σ H l r => h ρ M q w' σ H (le.trans l) r
theorem EndsR.mono {b : Bg} {w w1 : Wd} {D' : DEnds} {D : Ends} (h : EndsR b w D' D) (le : w.Le w1) : EndsR b w1 D' D :=
  ⟨h.nx.mono le, h.bk.mono le, h.ct.mono le, fun d M q w' v H l r z => h.rt d M q w' v H (le.trans l) r z⟩

abbrev DE (X : Cx) (e : Expr) (t : DTE) : Prop := PE X e (upE (bgX X) t)
abbrev DT (X : Cx) (e : Expr) (t : DTT) : Prop := PT X e (upT (bgX X) t)
abbrev DW (X : Cx) (e : Expr) (t : DTT) : Prop := PW X e (upT (bgX X) t)
abbrev DA (X : Cx) (es : List Expr) (t : DTA) : Prop := PA X es (upA (bgX X) t)
abbrev DS (X : Cx) (s : Stmt) (t : DTS) : Prop := PS X s (upS (bgX X) t)
abbrev DSs (X : Cx) (s : List Stmt) (t : DTS) : Prop := PSs X s (upS (bgX X) t)
abbrev DG (X : Cx) (e : Expr) (t : DTG) : Prop := PG X e (upG (bgX X) t)
abbrev DGs (X : Cx) (e : List Expr) (t : DTGs) : Prop := PGs X e (upGs (bgX X) t)
abbrev DTs (X : Cx) (es : List Expr) (t : DTT) : Prop := PTs X es (upT (bgX X) t)

section
variable {X : Cx}
theorem peM {e : Expr} {t t' : TE} (h : PE X e t) (m : ∀ σ H Q, t' σ H Q → t σ H Q) : PE X e t' := ⟨fun pins s σ H Q I q => h.run pins s σ H Q I (m σ H Q q)⟩
theorem ptM {e : Expr} {t t' : TT} (h : PT X e t) (m : ∀ σ H Q, t' σ H Q → t σ H Q) : PT X e t' := ⟨fun pins s σ H Q I q => h.run pins s σ H Q I (m σ H Q q)⟩
theorem pwM {e : Expr} {t t' : TT} (h : PW X e t) (m : ∀ σ H Q, t' σ H Q → t σ H Q) : PW X e t' := ⟨fun wh pins s σ H Q I q => h.run wh pins s σ H Q I (m σ H Q q)⟩
theorem ptsM {e : List Expr} {t t' : TT} (h : PTs X e t) (m : ∀ σ H Q, t' σ H Q → t σ H Q) : PTs X e t' := ⟨fun pins s σ H Q I q => h.run pins s σ H Q I (m σ H Q q)⟩
theorem paM {e : List Expr} {t t' : TA} (h : PA X e t) (m : ∀ σ H Q, t' σ H Q → t σ H Q) : PA X e t' := ⟨fun pos pins s σ H Q I q => h.run pos pins s σ H Q I (m σ H Q q)⟩
theorem psM {e : Stmt} {t t' : TS} (h : PS X e t) (m : ∀ D σ H, t' D σ H → t D σ H) : PS X e t' := ⟨fun pins s σ H D I q => h.run pins s σ H D I (m D σ H q)⟩
theorem pssM {e : List Stmt} {t t' : TS} (h : PSs X e t) (m : ∀ D σ H, t' D σ H → t D σ H) : PSs X e t' := ⟨fun pins s σ H D I q => h.run pins s σ H D I (m D σ H q)⟩
theorem pgM {e : Expr} {t t' : TG} (h : PG X e t) (m : ∀ v σ H Q, t' v σ H Q → t v σ H Q) : PG X e t' := ⟨fun pins s σ H v u Q I r q => h.run pins s σ H v u Q I r (m v σ H Q q)⟩
theorem pgsM {e : List Expr} {t t' : TGs} (h : PGs X e t) (m : ∀ v σ H Q, t' v σ H Q → t v σ H Q) : PGs X e t' := ⟨fun pins s σ H v u Q I r q => h.run pins s σ H v u Q I r (m v σ H Q q)⟩
end

/-! ### names, constants -/
def slot : Env' → Nat → Option D
  | [], _ => none
  | d :: _, 0 => d
  | _ :: r, n + 1 => slot r n
theorem slot_get : ∀ {ρ : Env'} {i : Nat} {d : D}, slot ρ i = some d → ρ[i]? = some (some d)
  | [], _, _, h => by cases h
  | x :: r, 0, d, h => by
    have h : x = some d := h
    simp [h]
  | x :: r, n + 1, d, h => by
    have h : slot r n = some d := h
    simpa using slot_get h
def dVar (i : Nat) : DTE := fun ρ M Q => match slot ρ i with | some d => Q d M | none => False
def dC (d : D) : DTE := fun _ M Q => Q d M
section
variable {X : Cx}
theorem de_var (i : Nat) {x : Str} {pos : Pos} (hN : X.N[i]? = some x := by rfl) (hv : Vis X.env.scope x := by first | exact Or.inl rfl | exact Or.inr (Or.inl rfl) | exact Or.inr (Or.inr rfl)) (hd : (x == ("__debug__" : Str)) = false := by decide)
    (hcd : (x == ("__classdict__" : Str)) = false := by decide) : DE X (.Name x pos) (dVar i) := by
  refine peM (pe_var hN hv hd hcd) fun σ H Q ⟨w, ρ, M, Q', R, h, k⟩ => ?_
  unfold dVar at h
  split at h
  · rename_i d e
    obtain ⟨v, ev, r⟩ := R.e.2 i d (slot_get e)
    exact ⟨v, ev, k d M h w v H (Wd.Le.refl w) R r⟩
  · exact h.elim
theorem de_C {e : Expr} {v : V} {d : D} (h : PE X e (tC v)) (r : ∀ w, Rel (bgX X) w d v) : DE X e (dC d) :=
  peM h fun σ H Q ⟨w, ρ, M, Q', R, h, k⟩ => k d M h w v H (Wd.Le.refl w) R (r w)
theorem de_int {i : Int} {j pos} : DE X (.Constant (.int i) j pos) (dC (.int i)) := de_C pe_int fun _ => .int i
theorem de_bl {b : Bool} {j pos} : DE X (.Constant (.bool b) j pos) (dC (.bl b)) := de_C pe_bl fun _ => .bl b
theorem de_non {j pos} : DE X (.Constant .none j pos) (dC .non) := de_C pe_non fun _ => .non
theorem de_str {x : Str} {j pos} : DE X (.Constant (.str x) j pos) (dC (.str x)) := de_C pe_str fun _ => .str x
/-- a module's constant -/
theorem de_glob {x : Str} {v : V} {d : D} {u : Value} {pos : Pos} (hg : Gl X x) (hm : X.mg x = some u) (r : RelV v u) (q : ∀ w, Rel (bgX X) w d v) (hd : (x == ("__debug__" : Str)) = false := by decide) : DE X (.Name x pos) (dC d) := de_C (pe_glob hg hm r hd) q

/-! ### operators -/
abbrev DR2 := D → D → Store → DK → Prop
abbrev DR1 := D → Store → DK → Prop
abbrev DRC := List D → Store → DK → Prop
/-- a two-place operation on values keeps what the data's says -/
def OpD (b : Bg) (r : R2) (dr : DR2) : Prop := ∀ (w : Wd) (M : Store) (H : Hp) (x y : D) (v u : V) (Q' : DK) (Q : VK), RM b w M H → Rel b w x v → Rel b w y u → dr x y M Q' →
  (∀ d M', Q' d M' → ∀ (w' : Wd) (z : V) (H' : Hp), w.Le w' → RM b w' M' H' → Rel b w' d z → Q z H') → r v u H Q
def UnD (b : Bg) (r : V → Hp → VK → Prop) (dr : DR1) : Prop := ∀ (w : Wd) (M : Store) (H : Hp) (x : D) (v : V) (Q' : DK) (Q : VK), RM b w M H → Rel b w x v → dr x M Q' →
  (∀ d M', Q' d M' → ∀ (w' : Wd) (z : V) (H' : Hp), w.Le w' → RM b w' M' H' → Rel b w' d z → Q z H') → r v H Q
def CallD (b : Bg) (r : List V → Hp → VK → Prop) (dr : DRC) : Prop := ∀ (w : Wd) (M : Store) (H : Hp) (xs : List D) (vs : List V) (Q' : DK) (Q : VK), RM b w M H → RelL b w xs vs → dr xs M Q' →
  (∀ d M', Q' d M' → ∀ (w' : Wd) (z : V) (H' : Hp), w.Le w' → RM b w' M' H' → Rel b w' d z → Q z H') → r vs H Q
def dOp (r : DR2) (ta tb : DTE) : DTE := fun ρ M Q => ta ρ M fun x M1 => tb ρ M1 fun y M2 => r x y M2 Q
def dUn (r : DR1) (ta : DTE) : DTE := fun ρ M Q => ta ρ M fun x M1 => r x M1 Q
theorem up_op {b : Bg} {r : R2} {dr : DR2} {ta tb : DTE} (hr : OpD b r dr) {σ : St} {H : Hp} {Q : VK} (h : upE b (dOp dr ta tb) σ H Q) : tOp r (upE b ta) (upE b tb) σ H Q := by
  obtain ⟨w, ρ, M, Q', R, h, k⟩ := h
  refine ⟨w, ρ, M, _, R, h, fun x M1 h1 w1 v1 H1 l1 R1 r1 => ?_⟩
  refine ⟨w1, ρ, M1, _, R1, h1, fun y M2 h2 w2 v2 H2 l2 R2 r2 => ?_⟩
  exact hr w2 M2 H2 x y v1 v2 Q' Q R2.m (r1.mono l2) r2 h2 fun d M' q w' z H' l R' rz => k d M' q w' z H' ((l1.trans l2).trans l) ⟨R', R2.e.mono l⟩ rz
variable {a b c e : Expr} {ta tb tc : DTE} {pos : Pos}
theorem de_op {op : Operator} {r : R2} {dr : DR2} (ho : OpR X (binaryOp op) r) (hr : OpD (bgX X) r dr) (ha : DE X a ta) (hb : DE X b tb) : DE X (.BinOp a op b pos) (dOp dr ta tb) :=
  peM (pe_op ho ha hb) fun _ _ _ h => up_op hr h
theorem de_un {op : UnaryOp} {r : V → Hp → VK → Prop} {dr : DR1} (ho : UnR X (unaryOp op) r) (hr : UnD (bgX X) r dr) (ha : DE X a ta) : DE X (.UnaryOp op a pos) (dUn dr ta) :=
  peM (pe_un ho ha) fun σ H Q ⟨w, ρ, M, Q', R, h, k⟩ => ⟨w, ρ, M, _, R, h, fun x M1 h1 w1 v1 H1 l1 R1 r1 =>
    hr w1 M1 H1 x v1 Q' Q R1.m r1 h1 fun d M' q w' z H' l R' rz => k d M' q w' z H' (l1.trans l) ⟨R', R1.e.mono l⟩ rz⟩
theorem de_cmp {op : CmpOp} {r : R2} {dr : DR2} (ho : OpR X (compareOp op) r) (hr : OpD (bgX X) r dr) (hm : behindInMarks op b = false) (ha : DE X a ta) (hb : DE X b tb) : DE X (.Compare a [op] [b] pos) (dOp dr ta tb) :=
  peM (pe_cmpR ho ha hb hm) fun _ _ _ h => up_op hr h
theorem de_chain {op op' : CmpOp} {r r' : R2} {dr dr' : DR2} (ho : OpR X (compareOp op) r) (ho' : OpR X (compareOp op') r') (hr : OpD (bgX X) r dr) (hr' : OpD (bgX X) r' dr') (ha : DE X a ta) (hb : DE X b tb) (hc : DE X c tc) (hm : lastMarks [op, op'] [b, c] = false := by rfl) :
    DE X (.Compare a [op, op'] [b, c] pos) (fun ρ M Q => ta ρ M fun x M1 => tb ρ M1 fun y M2 => dr x y M2 fun z M3 => match z with | .bl true => tc ρ M3 fun u M4 => dr' y u M4 Q | .bl false => Q (.bl false) M3 | _ => False) := by
  refine peM (pe_chain ho ho' ha hb hc (hm := hm)) fun σ H Q ⟨w, ρ, M, Q', R, h, k⟩ => ?_
  refine ⟨w, ρ, M, _, R, h, fun x M1 h1 w1 v1 H1 l1 R1 r1 => ?_⟩
  refine ⟨w1, ρ, M1, _, R1, h1, fun y M2 h2 w2 v2 H2 l2 R2 r2 => ?_⟩
  refine hr w2 M2 H2 x y v1 v2 _ _ R2.m (r1.mono l2) r2 h2 fun d M3 q w3 z H3 l3 R3 rz => ?_
  have R3' : RS (bgX X) w3 ρ M3 σ H3 := ⟨R3, R2.e.mono l3⟩
  split at q
  · cases rz
    refine ⟨true, rfl, ?_⟩
    rw [if_pos rfl]
    refine ⟨w3, ρ, M3, _, R3', q, fun u M4 h4 w4 v4 H4 l4 R4 r4 => ?_⟩
    exact hr' w4 M4 H4 y u v2 v4 Q' Q R4.m (r2.mono (l3.trans l4)) r4 h4 fun d M' q w' z H' l R' rz => k d M' q w' z H' ((((l1.trans l2).trans l3).trans l4).trans l) ⟨R', R4.e.mono l⟩ rz
  · cases rz
    refine ⟨false, rfl, ?_⟩
    rw [if_neg Bool.false_ne_true]
    exact k _ M3 q w3 _ H3 ((l1.trans l2).trans l3) R3' (.bl false)
  · exact q.elim

/-! ### tests -/
/-- a value that is a bool -/
def dB (t : DTE) : DTT := fun ρ M Q => t ρ M fun x M1 => match x with | .bl c => Q c M1 | _ => False
theorem dt_val (h : DE X e ta) (he : ∀ whole, isTrue e X.env whole = (do let v ← whole; standAt e.pos; holding [v] (truthy v)) := by intro _; rfl) : DT X e (dB ta) := by
  refine ptM (pt_val h he) fun σ H Q ⟨w, ρ, M, Q', R, h, k⟩ => ?_
  refine ⟨w, ρ, M, _, R, h, fun x M1 h1 w1 v1 H1 l1 R1 r1 => ?_⟩
  split at h1
  · cases r1
    exact ⟨_, rfl, k _ M1 h1 w1 H1 l1 R1⟩
  · exact h1.elim
theorem dt_cmp {op : CmpOp} {r : R2} {dr : DR2} (ho : OpR X (compareOp op) r) (hr : OpD (bgX X) r dr) (hm : behindInMarks op b = false) (ha : DE X a ta) (hb : DE X b tb) : DT X (.Compare a [op] [b] pos) (dB (dOp dr ta tb)) := by
  refine ptM (pt_cmpR ho ha hb hm) fun σ H Q ⟨w, ρ, M, Q', R, h, k⟩ => ?_
  refine up_op hr ⟨w, ρ, M, _, R, h, fun x M1 h1 w1 v1 H1 l1 R1 r1 => ?_⟩
  split at h1
  · cases r1
    exact ⟨_, rfl, k _ M1 h1 w1 H1 l1 R1⟩
  · exact h1.elim
/-- a value's truth -/
def truD (M : Store) : D → Option Bool
  | .non => some false
  | .bl b => some b
  | .int i => some (i != 0)
  | .str x => if x.length ≤ sizeLine then some (x.length != 0) else none
  | .tup ds => some (!ds.isEmpty)
  | .lst ds => some (!ds.isEmpty)
  | .dk kvs => some (!kvs.isEmpty)
  | .ref n => match M[n]? with | some (.lst ds) => some (!ds.isEmpty) | some (.dk kvs) => some (!kvs.isEmpty) | _ => none
  | _ => none
def dTru (t : DTE) : DTT := fun ρ M Q => t ρ M fun x M1 => match truD M1 x with | some c => Q c M1 | none => False
variable {uA uB : DTT} {rest : List Expr}
def dAnd (t u : DTT) : DTT := fun ρ M Q => t ρ M fun c M1 => if c = true then u ρ M1 Q else Q false M1
def dOr (t u : DTT) : DTT := fun ρ M Q => t ρ M fun c M1 => if c = true then Q true M1 else u ρ M1 Q
def dNot (t : DTT) : DTT := fun ρ M Q => t ρ M fun c M1 => Q (!c) M1
theorem DW.dt {e : Expr} {t : DTT} (h : DW X e t) : DT X e t := h.pt
theorem dw_and1 (ha : DT X a uA) : DW X (.BoolOp .And [a] pos) uA := pw_and1 ha
theorem dw_or1 (ha : DT X a uA) : DW X (.BoolOp .Or [a] pos) uA := pw_or1 ha
theorem dw_and (ha : DT X a uA) (hb : DW X (.BoolOp .And (b :: rest) pos) uB) : DW X (.BoolOp .And (a :: b :: rest) pos) (dAnd uA uB) := by
  refine pwM (pw_and ha hb) fun σ H Q ⟨w, ρ, M, Q', R, h, k⟩ => ?_
  refine ⟨w, ρ, M, _, R, h, fun c M1 h1 w1 H1 l1 R1 => ?_⟩
  cases c with
  | true =>
    rw [if_pos rfl] at h1 ⊢
    exact ⟨w1, ρ, M1, Q', R1, h1, fun c M' q w' H' l R' => k c M' q w' H' (l1.trans l) R'⟩
  | false =>
    rw [if_neg Bool.false_ne_true] at h1 ⊢
    exact k _ M1 h1 w1 H1 l1 R1
theorem dw_or (ha : DT X a uA) (hb : DW X (.BoolOp .Or (b :: rest) pos) uB) : DW X (.BoolOp .Or (a :: b :: rest) pos) (dOr uA uB) := by
  refine pwM (pw_or ha hb) fun σ H Q ⟨w, ρ, M, Q', R, h, k⟩ => ?_
  refine ⟨w, ρ, M, _, R, h, fun c M1 h1 w1 H1 l1 R1 => ?_⟩
  cases c with
  | false =>
    rw [if_neg Bool.false_ne_true] at h1 ⊢
    exact ⟨w1, ρ, M1, Q', R1, h1, fun c M' q w' H' l R' => k c M' q w' H' (l1.trans l) R'⟩
  | true =>
    rw [if_pos rfl] at h1 ⊢
    exact k _ M1 h1 w1 H1 l1 R1
theorem dt_not (ha : DT X a uA) : DT X (.UnaryOp .Not a pos) (dNot uA) :=
  ptM (pt_not ha) fun σ H Q ⟨w, ρ, M, Q', R, h, k⟩ => ⟨w, ρ, M, _, R, h, fun c M1 h1 w1 H1 l1 R1 => k _ M1 h1 w1 H1 l1 R1⟩
/-- and, or, not of bools as values -/
def dAndV (ta tb : DTE) : DTE := fun ρ M Q => ta ρ M fun x M1 => match x with | .bl true => tb ρ M1 Q | .bl false => Q (.bl false) M1 | _ => False
def dOrV (ta tb : DTE) : DTE := fun ρ M Q => ta ρ M fun x M1 => match x with | .bl true => Q (.bl true) M1 | .bl false => tb ρ M1 Q | _ => False
def dNotV (ta : DTE) : DTE := fun ρ M Q => ta ρ M fun x M1 => match x with | .bl c => Q (.bl (!c)) M1 | _ => False
theorem de_one {op} (ha : DE X a ta) : DE X (.BoolOp op [a] pos) ta := pe_one ha
theorem de_and (ha : DE X a ta) (hb : DE X (.BoolOp .And (b :: rest) pos) tb) : DE X (.BoolOp .And (a :: b :: rest) pos) (dAndV ta tb) := by
  refine peM (pe_and ha hb) fun σ H Q ⟨w, ρ, M, Q', R, h, k⟩ => ?_
  refine ⟨w, ρ, M, _, R, h, fun x M1 h1 w1 v1 H1 l1 R1 r1 => ?_⟩
  split at h1
  · cases r1
    refine ⟨true, rfl, ?_⟩
    rw [if_pos rfl]
    exact ⟨w1, ρ, M1, Q', R1, h1, fun d M' q w' z H' l R' rz => k d M' q w' z H' (l1.trans l) R' rz⟩
  · cases r1
    refine ⟨false, rfl, ?_⟩
    rw [if_neg Bool.false_ne_true]
    exact k _ M1 h1 w1 _ H1 l1 R1 (.bl false)
  · exact h1.elim
theorem de_or (ha : DE X a ta) (hb : DE X (.BoolOp .Or (b :: rest) pos) tb) : DE X (.BoolOp .Or (a :: b :: rest) pos) (dOrV ta tb) := by
  refine peM (pe_or ha hb) fun σ H Q ⟨w, ρ, M, Q', R, h, k⟩ => ?_
  refine ⟨w, ρ, M, _, R, h, fun x M1 h1 w1 v1 H1 l1 R1 r1 => ?_⟩
  split at h1
  · cases r1
    refine ⟨true, rfl, ?_⟩
    rw [if_pos rfl]
    exact k _ M1 h1 w1 _ H1 l1 R1 (.bl true)
  · cases r1
    refine ⟨false, rfl, ?_⟩
    rw [if_neg Bool.false_ne_true]
    exact ⟨w1, ρ, M1, Q', R1, h1, fun d M' q w' z H' l R' rz => k d M' q w' z H' (l1.trans l) R' rz⟩
  · exact h1.elim
theorem de_not (ha : DE X a ta) : DE X (.UnaryOp .Not a pos) (dNotV ta) := by
  refine peM (pe_not ha) fun σ H Q ⟨w, ρ, M, Q', R, h, k⟩ => ?_
  refine ⟨w, ρ, M, _, R, h, fun x M1 h1 w1 v1 H1 l1 R1 r1 => ?_⟩
  split at h1
  · cases r1
    exact ⟨_, rfl, k _ M1 h1 w1 _ H1 l1 R1 (.bl _)⟩
  · exact h1.elim
def dIf (t : DTT) (ta tb : DTE) : DTE := fun ρ M Q => t ρ M fun c M1 => if c = true then ta ρ M1 Q else tb ρ M1 Q
theorem de_if (hc : DT X c uA) (ha : DE X a ta) (hb : DE X b tb) : DE X (.IfExp c a b pos) (dIf uA ta tb) := by
  refine peM (pe_ifExp hc ha hb) fun σ H Q ⟨w, ρ, M, Q', R, h, k⟩ => ?_
  refine ⟨w, ρ, M, _, R, h, fun c M1 h1 w1 H1 l1 R1 => ?_⟩
  cases c with
  | true =>
    rw [if_pos rfl] at h1 ⊢
    exact ⟨w1, ρ, M1, Q', R1, h1, fun d M' q w' z H' l R' rz => k d M' q w' z H' (l1.trans l) R' rz⟩
  | false =>
    rw [if_neg Bool.false_ne_true] at h1 ⊢
    exact ⟨w1, ρ, M1, Q', R1, h1, fun d M' q w' z H' l R' rz => k d M' q w' z H' (l1.trans l) R' rz⟩

/-! ### argument lists, displays -/
def dNil : DTA := fun _ M Q => Q [] M
def dCons (ta : DTE) (tr : DTA) : DTA := fun ρ M Q => ta ρ M fun x M1 => tr ρ M1 fun xs M2 => Q (x :: xs) M2
variable {es : List Expr} {tr : DTA}
theorem da_nil : DA X [] dNil := paM pa_nil fun σ H Q ⟨w, ρ, M, Q', R, h, k⟩ => k [] M h w [] H (Wd.Le.refl w) R .nil
theorem da_cons (ha : DE X e ta) (hr : DA X es tr) (hs : starEach (e :: es) X.env = (false, eval e X.env) :: starEach es X.env := by rfl) : DA X (e :: es) (dCons ta tr) := by
  refine paM (pa_cons ha hr hs) fun σ H Q ⟨w, ρ, M, Q', R, h, k⟩ => ?_
  refine ⟨w, ρ, M, _, R, h, fun x M1 h1 w1 v1 H1 l1 R1 r1 => ?_⟩
  refine ⟨w1, ρ, M1, _, R1, h1, fun xs M2 h2 w2 vs H2 l2 R2 r2 => ?_⟩
  exact k _ M2 h2 w2 _ H2 (l1.trans l2) R2 (.cons (r1.mono l2) r2)
/-- a tuple -/
def dTup (t : DTA) : DTE := fun ρ M Q => t ρ M fun xs M1 => xs.length ≤ sizeLine ∧ Q (.tup xs) M1
theorem frozT {b : Bg} {w : Wd} {M : Store} {H : Hp} {xs : List D} {vs : List V} {p : Addr} (R : RM b w M H) (r : RelL b w xs vs) (hp : H p = none) : Rel b (w.froz p (.tup vs)) (.tup xs) (.ref p) := by
  have rr := r.mono (Wd.froz_le (o := .tup vs) (R.nF hp))
  exact .tup (.inl (.inl upd_same)) rr.1 rr.2
theorem frozL {b : Bg} {w : Wd} {M : Store} {H : Hp} {xs : List D} {vs : List V} {p : Addr} (R : RM b w M H) (r : RelL b w xs vs) (hp : H p = none) : Rel b (w.froz p (.lst vs)) (.lst xs) (.ref p) := by
  have rr := r.mono (Wd.froz_le (o := .lst vs) (R.nF hp))
  exact .lst (.inl (.inl upd_same)) rr.1 rr.2
theorem RS.froz {b : Bg} {w : Wd} {ρ : Env'} {M : Store} {σ : St} {H : Hp} (R : RS b w ρ M σ H) {p : Addr} {o : HO} (hp : H p = none) : RS b (w.froz p o) ρ M σ (upd H p o) :=
  ⟨R.m.froz hp, R.e.mono (Wd.froz_le (R.m.nF hp))⟩
theorem de_tup {k} (h : DA X es tr) : DE X (.Tuple es k pos) (dTup tr) := by
  refine peM (pe_tup h) fun σ H Q ⟨w, ρ, M, Q', R, h, k⟩ => ?_
  refine ⟨w, ρ, M, _, R, h, fun xs M1 h1 w1 vs H1 l1 R1 r1 => ?_⟩
  obtain ⟨hz, h1⟩ := h1
  refine ⟨by rw [← r1.1]; exact hz, fun p hp => ?_⟩
  exact k _ M1 h1 (w1.froz p (.tup vs)) _ _ (l1.trans (Wd.froz_le (R1.m.nF hp))) (R1.froz hp) (frozT R1.m r1 hp)
/-- a list that stays as it is | that may change -/
def dLst (t : DTA) : DTE := fun ρ M Q => t ρ M fun xs M1 => xs.length ≤ sizeLine ∧ Q (.lst xs) M1
def dLstM (t : DTA) : DTE := fun ρ M Q => t ρ M fun xs M1 => xs.length ≤ sizeLine ∧ Q (.ref M1.length) (M1 ++ [.lst xs])
theorem RS.put {b : Bg} {w : Wd} {ρ : Env'} {M : Store} {σ : St} {H : Hp} (R : RS b w ρ M σ H) {p : Addr} {o : HO} {m : MO} (hp : H p = none) (c : CellR b (w.put p) p m o) : RS b (w.put p) ρ (M ++ [m]) σ (upd H p o) :=
  ⟨R.m.put hp c, R.e.mono Wd.put_le⟩
theorem putR {b : Bg} {w : Wd} {M : Store} {H : Hp} (R : RM b w M H) {p : Addr} : Rel b (w.put p) (.ref M.length) (.ref p) := by
  refine .ref ?_
  show (w.as ++ [p])[M.length]? = some p
  rw [← R.len, List.getElem?_append_right (Nat.le_refl _)]
  simp
theorem de_lst (h : DA X es tr) : DE X (.List es pos) (dLst tr) := by
  refine peM (pe_lst h) fun σ H Q ⟨w, ρ, M, Q', R, h, k⟩ => ?_
  refine ⟨w, ρ, M, _, R, h, fun xs M1 h1 w1 vs H1 l1 R1 r1 => ?_⟩
  obtain ⟨hz, h1⟩ := h1
  refine ⟨by rw [← r1.1]; exact hz, fun p hp => ?_⟩
  exact k _ M1 h1 (w1.froz p (.lst vs)) _ _ (l1.trans (Wd.froz_le (R1.m.nF hp))) (R1.froz hp) (frozL R1.m r1 hp)
theorem de_lstM (h : DA X es tr) : DE X (.List es pos) (dLstM tr) := by
  refine peM (pe_lst h) fun σ H Q ⟨w, ρ, M, Q', R, h, k⟩ => ?_
  refine ⟨w, ρ, M, _, R, h, fun xs M1 h1 w1 vs H1 l1 R1 r1 => ?_⟩
  obtain ⟨hz, h1⟩ := h1
  refine ⟨by rw [← r1.1]; exact hz, fun p hp => ?_⟩
  exact k _ _ h1 (w1.put p) _ _ (l1.trans Wd.put_le) (R1.put hp (.lst (r1.mono Wd.put_le))) (putR R1.m)

/-! ### blocks, statements -/
variable {st : Stmt} {sts : List Stmt} {t u : DTS}
def dNext : DTS := fun D ρ M => D.nx ρ M
def dSeq (t u : DTS) : DTS := fun D ρ M => t { D with nx := u D } ρ M
theorem dss_nil : DSs X [] dNext := pssM pss_nil fun D σ H ⟨w, ρ, M, D', R, h, E⟩ => E.nx ρ M h w σ H (Wd.Le.refl w) R
theorem dss_one (h : DS X st t) : DSs X [st] t := pss_one h
theorem dss_cons (h1 : DS X st t) (h2 : DSs X sts u) : DSs X (st :: sts) (dSeq t u) := by
  refine pssM (pss_cons h1 h2) fun D σ H ⟨w, ρ, M, D', R, h, E⟩ => ?_
  refine ⟨w, ρ, M, _, R, h, ⟨fun ρ' M' q w' σ' H' l R' => ?_, E.bk, E.ct, E.rt⟩⟩
  exact ⟨w', ρ', M', D', R', q, E.mono l⟩
theorem ds_pass : DS X (.Pass pos) dNext := psM ps_pass fun D σ H ⟨w, ρ, M, D', R, h, E⟩ => E.nx ρ M h w σ H (Wd.Le.refl w) R
def dBreak : DTS := fun D ρ M => D.bk ρ M
def dCont : DTS := fun D ρ M => D.ct ρ M
theorem ds_break : DS X (.Break pos) dBreak := psM ps_break fun D σ H ⟨w, ρ, M, D', R, h, E⟩ => E.bk ρ M h w σ H (Wd.Le.refl w) R
theorem ds_continue : DS X (.Continue pos) dCont := psM ps_continue fun D σ H ⟨w, ρ, M, D', R, h, E⟩ => E.ct ρ M h w σ H (Wd.Le.refl w) R
theorem ds_doc {x : Str} {j pos'} : DS X (.Expr (.Constant (.str x) j pos) pos') dNext := psM ps_doc fun D σ H ⟨w, ρ, M, D', R, h, E⟩ => E.nx ρ M h w σ H (Wd.Le.refl w) R
def dDrop (te : DTE) : DTS := fun D ρ M => te ρ M fun _ M1 => D.nx ρ M1
theorem ds_expr (he : DE X e ta) (hs : swapsWith e none pos.line X.env = pure false := by rfl) : DS X (.Expr e pos) (dDrop ta) :=
  psM (ps_expr he hs) fun D σ H ⟨w, ρ, M, D', R, h, E⟩ => ⟨w, ρ, M, _, R, h, fun x M1 h1 w1 v1 H1 l1 R1 r1 => E.nx ρ M1 h1 w1 σ H1 l1 R1⟩
def dRet (te : DTE) : DTS := fun D ρ M => te ρ M D.rt
theorem ds_ret (he : DE X e ta) : DS X (.Return (some e) pos) (dRet ta) :=
  psM (ps_ret he) fun D σ H ⟨w, ρ, M, D', R, h, E⟩ => ⟨w, ρ, M, _, R, h, fun x M1 h1 w1 v1 H1 l1 R1 r1 => E.rt x M1 h1 w1 v1 H1 l1 R1.m r1⟩
def dRetN : DTS := fun D _ M => D.rt .non M
theorem ds_retN : DS X (.Return none pos) dRetN := psM ps_retN fun D σ H ⟨w, ρ, M, D', R, h, E⟩ => E.rt .non M h w .non H (Wd.Le.refl w) R.m .non
def dIfS (c : DTT) (t u : DTS) : DTS := fun D ρ M => c ρ M fun b M1 => if b = true then t D ρ M1 else u D ρ M1
theorem ds_if {sb : List Stmt} (hc : DT X c uA) (ha : DSs X sts t) (hb : DSs X sb u) : DS X (.If c sts sb pos) (dIfS uA t u) := by
  refine psM (ps_if hc ha hb) fun D σ H ⟨w, ρ, M, D', R, h, E⟩ => ?_
  refine ⟨w, ρ, M, _, R, h, fun c M1 h1 w1 H1 l1 R1 => ?_⟩
  cases c with
  | true =>
    rw [if_pos rfl] at h1 ⊢
    exact ⟨w1, ρ, M1, D', R1, h1, E.mono l1⟩
  | false =>
    rw [if_neg Bool.false_ne_true] at h1 ⊢
    exact ⟨w1, ρ, M1, D', R1, h1, E.mono l1⟩
def dNever : DTS := fun _ _ _ => False
theorem ds_never : DS X st dNever := psM ps_never fun D σ H ⟨w, ρ, M, D', R, h, E⟩ => h.elim
theorem dss_never : DSs X sts dNever := pssM pss_never fun D σ H ⟨w, ρ, M, D', R, h, E⟩ => h.elim

/-! ### targets -/
def dgName (i : Nat) : DTG := fun d ρ M Q => Q (ρ.set i (some d)) M
theorem dg_name {i : Nat} {x : Str} (hN : X.N.Nodup) (hi : X.N[i]? = some x) (hx : Loc X.env.scope x) (hf : X.fn x = true ∨ X.env.scope.names.lookup x = some .local := by first | exact .inl rfl | exact .inr rfl | assumption) : DG X (.Name x pos) (dgName i) :=
  pgM (pg_name hN hi hx hf) fun v σ H Q ⟨w, ρ, M, d, Q', R, r, h, k⟩ => k _ M h w _ H (Wd.Le.refl w) ⟨R.m, R.e.set r⟩
def dgNil : DTGs := fun ds ρ M Q => ds = [] ∧ Q ρ M
def dgCons (t : DTG) (u : DTGs) : DTGs := fun ds ρ M Q => match ds with | d :: r => t d ρ M fun ρ' M' => u r ρ' M' Q | [] => False
theorem dgs_nil : DGs X [] dgNil := pgsM pgs_nil fun vs σ H Q ⟨w, ρ, M, ds, Q', R, r, h, k⟩ => by
  obtain ⟨e, h⟩ := h
  subst e
  have : vs = [] := List.length_eq_zero_iff.mp r.1.symm
  exact ⟨this, k ρ M h w σ H (Wd.Le.refl w) R⟩
theorem dgs_cons {tg : DTG} {ug : DTGs} (h1 : DG X e tg) (h2 : DGs X es ug) (hs : (assignEach (e :: es) X.env).map (·.2) = assign e X.env :: (assignEach es X.env).map (·.2) := by rfl) : DGs X (e :: es) (dgCons tg ug) := by
  refine pgsM (pgs_cons h1 h2 hs) fun vs σ H Q ⟨w, ρ, M, ds, Q', R, r, h, k⟩ => ?_
  cases ds with
  | nil => exact h.elim
  | cons d ds =>
    cases vs with
    | nil => cases r.1
    | cons v vs =>
      refine ⟨v, vs, rfl, w, ρ, M, d, _, R, r.2 0 d v rfl rfl, h, fun ρ1 M1 h1 w1 σ1 H1 l1 R1 => ?_⟩
      exact ⟨w1, ρ1, M1, ds, Q', R1, RelL.mono l1 ⟨Nat.succ.inj r.1, fun i a b e1 e2 => r.2 (i + 1) a b e1 e2⟩, h1, k.mono l1⟩
/-- (a, b, ..) = a tuple -/
def dgTup (n : Nat) (t : DTGs) : DTG := fun d ρ M Q => match d with | .tup ds => ds.length = n ∧ t ds ρ M Q | _ => False
theorem dg_tup {k n : Nat} {tg : DTGs} (hc : X.calm = true) (h : DGs X es tg) (hn : (assignEach es X.env).length = n := by rfl) (hst : (assignEach es X.env).findIdx? (·.1) = none := by rfl) : DG X (.Tuple es k pos) (dgTup n tg) := by
  refine pgM (pg_tup hc h hn hst) fun v σ H Q ⟨w, ρ, M, d, Q', R, r, h, k⟩ => ?_
  unfold dgTup at h
  split at h
  · rename_i ds
    cases r with
    | tup s l q =>
      exact ⟨_, _, rfl, sqT_mono R.m.sub s, l.symm.trans h.1, w, ρ, M, ds, Q', R, ⟨l, q⟩, h.2, k⟩
  · exact h.elim
def dAsg (te : DTE) (g : DTG) : DTS := fun D ρ M => te ρ M fun d M1 => g d ρ M1 D.nx
theorem ds_asg {tg : Expr} {g : DTG} (he : DE X e ta) (hg : DG X tg g) (hs : swapsWithSole [tg] e pos.line X.env = pure false := by rfl) (hw : swappedStores [tg] e X.env = pure none := by rfl)
    (h1 : (assignEach [tg] X.env).map (·.2) = [assign tg X.env] := by rfl) : DS X (.Assign [tg] e pos) (dAsg ta g) := by
  refine psM (ps_asg he hg hs hw h1) fun D σ H ⟨w, ρ, M, D', R, h, E⟩ => ?_
  exact ⟨w, ρ, M, _, R, h, fun d M1 h1 w1 v1 H1 l1 R1 r1 => ⟨w1, ρ, M1, d, _, R1, r1, h1, E.nx.mono l1⟩⟩
theorem ds_set {i : Nat} {x : Str} {pos' : Pos} (hN : X.N.Nodup) (hi : X.N[i]? = some x) (hx : Loc X.env.scope x) (he : DE X e ta) (hs : swapsWith e (some (.Name x pos')) pos.line X.env = pure false := by rfl) (hf : X.fn x = true ∨ X.env.scope.names.lookup x = some .local := by first | exact .inl rfl | exact .inr rfl | assumption) :
    DS X (.Assign [.Name x pos'] e pos) (dAsg ta (dgName i)) := by
  refine psM (ps_set hN hi hx he hs hf) fun D σ H ⟨w, ρ, M, D', R, h, E⟩ => ?_
  exact ⟨w, ρ, M, _, R, h, fun d M1 h1 w1 v1 H1 l1 R1 r1 => E.nx _ M1 h1 w1 _ H1 l1 ⟨R1.m, R1.e.set r1⟩⟩
def dPar (i j : Nat) (t : DTA) : DTS := fun D ρ M => t ρ M fun ds M1 => match ds with | [a, b] => D.nx ((ρ.set i (some a)).set j (some b)) M1 | _ => False
theorem ds_par {i j : Nat} {x y : Str} {px py pt : Pos} {kt k2 pt2} (hc : X.calm = true) (hN : X.N.Nodup) (hi : X.N[i]? = some x) (hj : X.N[j]? = some y) (hij : i ≠ j)
    (hx : X.env.scope.names.lookup x = some .local) (hy : X.env.scope.names.lookup y = some .local) (ha : DA X [a, b] tr)
    (hw : swappedStores [.Tuple [.Name x px, .Name y py] kt pt] (.Tuple [a, b] k2 pt2) X.env = pure (some [x, y]))
    (hs : swapsWithSole [.Tuple [.Name x px, .Name y py] kt pt] (.Tuple [a, b] k2 pt2) pos.line X.env = pure false := by rfl) :
    DS X (.Assign [.Tuple [.Name x px, .Name y py] kt pt] (.Tuple [a, b] k2 pt2) pos) (dPar i j tr) := by
  refine psM (ps_par hc hN hi hj hij hx hy ha hw hs) fun D σ H ⟨w, ρ, M, D', R, h, E⟩ => ?_
  refine ⟨w, ρ, M, _, R, h, fun ds M1 h1 w1 vs H1 l1 R1 r1 => ?_⟩
  split at h1
  · rename_i a b
    match vs, r1 with
    | [v, u], r1 => exact ⟨v, u, rfl, E.nx _ M1 h1 w1 _ H1 l1 ⟨R1.m, (R1.e.set (r1.2 0 a v rfl rfl)).set (r1.2 1 b u rfl rfl)⟩⟩
    | [], r1 => cases r1.1
    | [_], r1 => exact absurd r1.1 (by simp)
    | _ :: _ :: _ :: _, r1 => exact absurd r1.1 (by simp)
  · exact h1.elim
/-- name op= e -/
def dAug (i : Nat) (te : DTE) (r : DR2) : DTS := fun D ρ M => match slot ρ i with | some x => te ρ M fun y M1 => r x y M1 fun z M2 => D.nx (ρ.set i (some z)) M2 | none => False
theorem pip_of {op : Operator} {r : R2} (h : OpR X (inplaceOp op) r) : PIp X op r := fun pins s σ H x y v u Q I rx ry q => h pins s σ H x y v u Q I rx ry q
theorem ds_aug {i : Nat} {x : Str} {op : Operator} {r : R2} {dr : DR2} {pos' : Pos} (hN : X.N.Nodup) (hi : X.N[i]? = some x) (hx : Loc X.env.scope x) (ho : OpR X (inplaceOp op) r) (hr : OpD (bgX X) r dr) (he : DE X e ta)
    (hf : X.fn x = true ∨ X.env.scope.names.lookup x = some .local := by first | exact .inl rfl | exact .inr rfl | assumption) : DS X (.AugAssign (.Name x pos') op e pos) (dAug i ta dr) := by
  refine psM (ps_aug hN hi hx he (pip_of ho) hf) fun D σ H ⟨w, ρ, M, D', R, h, E⟩ => ?_
  unfold dAug at h
  split at h
  · rename_i d ed
    obtain ⟨v, ev, rd⟩ := R.e.2 i d (slot_get ed)
    refine ⟨v, ev, w, ρ, M, _, R, h, fun y M1 h1 w1 u1 H1 l1 R1 r1 => ?_⟩
    exact hr w1 M1 H1 d y v u1 _ _ R1.m (rd.mono l1) r1 h1 fun z M2 q w2 vz H2 l2 R2 rz => E.nx _ M2 q w2 _ H2 (l1.trans l2) ⟨R2, (R1.e.mono l2).set rz⟩
  · exact h.elim

/-! ### while -/
def dWhile (c : DTT) (tb : DTS) : DTS := fun D ρ M => ∃ W : Nat → Env' → Store → Prop, (∃ m, W m ρ M) ∧ ∀ m ρ M, W m ρ M →
  c ρ M fun b M1 => if b = true then tb { D with nx := fun ρ' M' => TurnOk M ρ' M' fun ρ'' M'' => ∃ m', m' < m ∧ W m' ρ'' M'', ct := fun ρ' M' => TurnOk M ρ' M' fun ρ'' M'' => ∃ m', m' < m ∧ W m' ρ'' M'', bk := D.nx } ρ M1 else D.nx ρ M1
theorem ds_while (hp : PassesOwn (model X.prog X.w) X.A X.env X.xe) (hc : DT X c uA) (hb : DSs X sts t) : DS X (.While c sts [] pos) (dWhile uA t) := by
  refine psM (ps_while hp hc hb) fun D σ H ⟨w, ρ, M, D', R, ⟨W, ⟨m0, w0⟩, turn⟩, E⟩ => ?_
  refine ⟨fun m σ H => ∃ (w1 : Wd) (ρ1 : Env') (M1 : Store), w.Le w1 ∧ RS (bgX X) w1 ρ1 M1 σ H ∧ W m ρ1 M1, ⟨m0, w, ρ, M, Wd.Le.refl w, R, w0⟩, ?_⟩
  rintro m σ1 H1 ⟨w1, ρ1, M1, l1, R1, q1⟩
  refine ⟨w1, ρ1, M1, _, R1, turn m ρ1 M1 q1, fun c M2 h2 w2 H2 l2 R2 => ?_⟩
  cases c with
  | false =>
    rw [if_neg Bool.false_ne_true] at h2 ⊢
    exact E.nx _ M2 h2 w2 _ H2 (l1.trans l2) R2
  | true =>
    rw [if_pos rfl] at h2 ⊢
    refine ⟨fun σ' H' => ∃ (m' : Nat) (w1 : Wd) (ρ1 : Env') (M1 : Store), m' < m ∧ w.Le w1 ∧ RS (bgX X) w1 ρ1 M1 σ' H' ∧ W m' ρ1 M1, fun σ' H' ⟨m', w', ρ', M', hm, l, R', q⟩ => ⟨m', hm, w', ρ', M', l, R', q⟩, ?_⟩
    have go : NxR (bgX X) w2 (fun ρ' M' => TurnOk M1 ρ' M' fun ρ'' M'' => ∃ m', m' < m ∧ W m' ρ'' M'') (fun σ' H' => ∃ (m' : Nat) (w1 : Wd) (ρ1 : Env') (M1 : Store), m' < m ∧ w.Le w1 ∧ RS (bgX X) w1 ρ1 M1 σ' H' ∧ W m' ρ1 M1) := by
      intro ρ3 M3 h3 w3 σ3 H3 l3 R3
      obtain ⟨ρ4, M4, w4, l4, R4, m', hm, q⟩ := h3.sound R1.m (l2.trans l3) R3
      exact ⟨m', w4, ρ4, M4, hm, l1.trans l4, R4, q⟩
    exact ⟨w2, ρ1, M2, _, R2, h2, ⟨go, E.nx.mono (l1.trans l2), go, fun d M' q w' v H' l R' r => E.rt d M' q w' v H' ((l1.trans l2).trans l) R' r⟩⟩
end
end DL

set_option Elab.async false
set_option linter.all false
set_option maxRecDepth 100000
set_option maxHeartbeats 2000000
/-! DLOps: operators, subscripts, methods, built-ins over data. -/
namespace DL
open PySem L2

/-! ### the values' relations out of the data's -/
section
variable {X : Cx}
def rX (b : Bg) (dr : DR2) : R2 := fun v u H Q => ∃ (w : Wd) (M : Store) (x y : D) (Q' : DK), RM b w M H ∧ Rel b w x v ∧ Rel b w y u ∧ dr x y M Q' ∧
  ∀ d M', Q' d M' → ∀ (w' : Wd) (z : V) (H' : Hp), w.Le w' → RM b w' M' H' → Rel b w' d z → Q z H'
theorem rX_d {b : Bg} {dr : DR2} : OpD b (rX b dr) dr := fun w M H x y v u Q' Q R r1 r2 h k => ⟨w, M, x, y, Q', R, r1, r2, h, k⟩
def rU1 (b : Bg) (dr : DR1) : V → Hp → VK → Prop := fun v H Q => ∃ (w : Wd) (M : Store) (x : D) (Q' : DK), RM b w M H ∧ Rel b w x v ∧ dr x M Q' ∧
  ∀ d M', Q' d M' → ∀ (w' : Wd) (z : V) (H' : Hp), w.Le w' → RM b w' M' H' → Rel b w' d z → Q z H'
theorem rU1_d {b : Bg} {dr : DR1} : UnD b (rU1 b dr) dr := fun w M H x v Q' Q R r1 h k => ⟨w, M, x, Q', R, r1, h, k⟩
def rCX (b : Bg) (dr : DRC) : List V → Hp → VK → Prop := fun vs H Q => ∃ (w : Wd) (M : Store) (xs : List D) (Q' : DK), RM b w M H ∧ RelL b w xs vs ∧ dr xs M Q' ∧
  ∀ d M', Q' d M' → ∀ (w' : Wd) (z : V) (H' : Hp), w.Le w' → RM b w' M' H' → Rel b w' d z → Q z H'
theorem rCX_d {b : Bg} {dr : DRC} : CallD b (rCX b dr) dr := fun w M H xs vs Q' Q R r1 h k => ⟨w, M, xs, Q', R, r1, h, k⟩
/-- an operation over data -/
abbrev OpX (X : Cx) (f : Value → Value → Sem Value) (dr : DR2) : Prop := OpR X f (rX (bgX X) dr)
abbrev UnX (X : Cx) (f : Value → Sem Value) (dr : DR1) : Prop := UnR X f (rU1 (bgX X) dr)
abbrev CallX (X : Cx) (f : Value) (dr : DRC) : Prop := CallR X f (rCX (bgX X) dr)
variable {a b c e : Expr} {ta tb tc : DTE} {pos : Pos}
theorem de_opX {op : Operator} {dr : DR2} (ho : OpX X (binaryOp op) dr) (ha : DE X a ta) (hb : DE X b tb) : DE X (.BinOp a op b pos) (dOp dr ta tb) := de_op ho rX_d ha hb
theorem de_unX {op : UnaryOp} {dr : DR1} (ho : UnX X (unaryOp op) dr) (ha : DE X a ta) : DE X (.UnaryOp op a pos) (dUn dr ta) := de_un ho rU1_d ha
theorem de_cmpX {op : CmpOp} {dr : DR2} (ho : OpX X (compareOp op) dr) (hm : behindInMarks op b = false) (ha : DE X a ta) (hb : DE X b tb) : DE X (.Compare a [op] [b] pos) (dOp dr ta tb) := de_cmp ho rX_d hm ha hb
theorem dt_cmpX {op : CmpOp} {dr : DR2} (ho : OpX X (compareOp op) dr) (hm : behindInMarks op b = false) (ha : DE X a ta) (hb : DE X b tb) : DT X (.Compare a [op] [b] pos) (dB (dOp dr ta tb)) := dt_cmp ho rX_d hm ha hb
theorem ds_augX {i : Nat} {x : Str} {op : Operator} {dr : DR2} {pos' : Pos} (hN : X.N.Nodup) (hi : X.N[i]? = some x) (hx : Loc X.env.scope x) (ho : OpX X (inplaceOp op) dr) (he : DE X e ta)
    (hf : X.fn x = true ∨ X.env.scope.names.lookup x = some .local := by first | exact .inl rfl | exact .inr rfl | assumption) : DS X (.AugAssign (.Name x pos') op e pos) (dAug i ta dr) := ds_aug hN hi hx ho rX_d he hf
/-- from a rule of HandS -/
theorem OpX.of {f : Value → Value → Sem Value} {r : R2} {dr : DR2} (h : OpR X f r) (hd : OpD (bgX X) r dr) : OpX X f dr := fun pins s σ H x y v u Q I rx ry ⟨w, M, dx, dy, Q', R, r1, r2, q, k⟩ =>
  h pins s σ H x y v u Q I rx ry (hd w M H dx dy x y Q' Q R r1 r2 q k)
theorem UnX.of {f : Value → Sem Value} {r : V → Hp → VK → Prop} {dr : DR1} (h : UnR X f r) (hd : UnD (bgX X) r dr) : UnX X f dr := fun pins s σ H x v Q I rx ⟨w, M, dx, Q', R, r1, q, k⟩ =>
  h pins s σ H x v Q I rx (hd w M H dx x Q' Q R r1 q k)
theorem CallX.of {f : Value} {r : List V → Hp → VK → Prop} {dr : DRC} (h : CallR X f r) (hd : CallD (bgX X) r dr) : CallX X f dr := fun pins s σ H xs us Q I rx ⟨w, M, dx, Q', R, r1, q, k⟩ =>
  h pins s σ H xs us Q I rx (hd w M H dx xs Q' Q R r1 q k)
end

/-! ### views -/
def viewL (M : Store) : D → Option (List D)
  | .lst ds => some ds
  | .ref n => match M[n]? with | some (.lst ds) => some ds | _ => none
  | _ => none
/-- a list or a tuple -/
def viewS (M : Store) : D → Option (List D)
  | .tup ds => some ds
  | .lst ds => some ds
  | .ref n => match M[n]? with | some (.lst ds) => some ds | _ => none
  | _ => none
theorem viewL_at {b : Bg} {w : Wd} {M : Store} {H : Hp} {d : D} {v : V} {ds : List D} (R : RM b w M H) (r : Rel b w d v) (e : viewL M d = some ds) : ∃ a vs, v = .ref a ∧ SqL b.K H a vs ∧ RelL b w ds vs := by
  cases r with
  | lst s l q =>
    cases e
    exact ⟨_, _, rfl, sqL_mono R.sub s, l, q⟩
  | ref ea =>
    simp only [viewL] at e
    split at e
    · rename_i hM
      cases e
      obtain ⟨_, u, eu, c⟩ := R.cell _ _ _ ea hM
      cases c with
      | lst q => exact ⟨_, _, rfl, .inl (.inl eu), q⟩
    · cases e
  | _ => cases e
theorem viewS_at {b : Bg} {w : Wd} {M : Store} {H : Hp} {d : D} {v : V} {ds : List D} (R : RM b w M H) (r : Rel b w d v) (e : viewS M d = some ds) : ∃ a vs, v = .ref a ∧ (SqL b.K H a vs ∨ SqT b.K H a vs) ∧ RelL b w ds vs := by
  cases r with
  | tup s l q =>
    cases e
    exact ⟨_, _, rfl, .inr (sqT_mono R.sub s), l, q⟩
  | lst s l q =>
    cases e
    exact ⟨_, _, rfl, .inl (sqL_mono R.sub s), l, q⟩
  | ref ea =>
    have e' : viewL M (.ref _) = some ds := e
    obtain ⟨a, vs, e1, s, q⟩ := viewL_at R (.ref ea) e'
    exact ⟨a, vs, e1, .inl s, q⟩
  | _ => cases e

/-! ### operators -/
section
variable {X : Cx}
def addR : DR2 := fun x y M Q => match x, y with
  | .int i, .int j => Q (.int (i + j)) M
  | .str a, .str b => a.length + b.length ≤ sizeLine ∧ Q (.str (a ++ b)) M
  | .tup xs, .tup ys => xs.length + ys.length ≤ sizeLine ∧ Q (.tup (xs ++ ys)) M
  | _, _ => False
theorem addR_d : OpD (bgX X) (fun x y H Q => rI0 (fun i j => .int (i + j)) x y H Q ∨ (∃ i j, x = .str i ∧ y = .str j ∧ i.length + j.length ≤ sizeLine ∧ Q (.str (i ++ j)) H) ∨ rCatA X.K x y H Q) addR := by
  intro w M H x y v u Q' Q R r1 r2 h k
  unfold addR at h
  split at h
  · cases r1; cases r2
    exact .inl ⟨_, _, rfl, rfl, k _ M h w _ H (Wd.Le.refl w) R (.int _)⟩
  · cases r1; cases r2
    exact .inr (.inl ⟨_, _, rfl, rfl, h.1, k _ M h.2 w _ H (Wd.Le.refl w) R (.str _)⟩)
  · cases r1 with
    | tup s1 l1 q1 =>
      cases r2 with
      | tup s2 l2 q2 =>
        refine .inr (.inr ⟨_, _, _, _, rfl, rfl, sqT_mono R.sub s1, sqT_mono R.sub s2, by rw [← l1, ← l2]; exact h.1, fun e => ?_, fun _ e => ?_, fun _ _ p hp => ?_⟩)
        · subst e
          have : _ = ([] : List D) := List.length_eq_zero_iff.mp l1
          subst this
          exact k _ M h.2 w _ H (Wd.Le.refl w) R (.tup s2 l2 q2)
        · subst e
          have : _ = ([] : List D) := List.length_eq_zero_iff.mp l2
          subst this
          rw [List.append_nil] at h
          exact k _ M h.2 w _ H (Wd.Le.refl w) R (.tup s1 l1 q1)
        · exact k _ M h.2 _ _ _ (Wd.froz_le (R.nF hp)) (R.froz hp) (frozT R (RelL.append ⟨l1, q1⟩ ⟨l2, q2⟩) hp)
  · exact h.elim
theorem ox_add : OpX X (binaryOp .Add) addR := .of (.or op_add (.or op_add_str op_catA)) addR_d
def iaddR : DR2 := fun x y M Q => match x, y with
  | .int i, .int j => Q (.int (i + j)) M
  | .str a, .str b => a.length + b.length ≤ sizeLine ∧ Q (.str (a ++ b)) M
  | _, _ => False
theorem ox_iadd : OpX X (inplaceOp .Add) iaddR := .of (.or iop_add iop_add_str) fun w M H x y v u Q' Q R r1 r2 h k => by
  unfold iaddR at h
  split at h
  · cases r1; cases r2
    exact .inl ⟨_, _, rfl, rfl, k _ M h w _ H (Wd.Le.refl w) R (.int _)⟩
  · cases r1; cases r2
    exact .inr ⟨_, _, rfl, rfl, h.1, k _ M h.2 w _ H (Wd.Le.refl w) R (.str _)⟩
  · exact h.elim
/-- ints in, under C, a value out -/
def intR (C : Int → Int → Prop) (g : Int → Int → D) : DR2 := fun x y M Q => match x, y with
  | .int i, .int j => C i j ∧ Q (g i j) M
  | _, _ => False
def intR0 (g : Int → Int → D) : DR2 := fun x y M Q => match x, y with
  | .int i, .int j => Q (g i j) M
  | _, _ => False
theorem intR_d {C : Int → Int → Prop} {g : Int → Int → V} {g' : Int → Int → D} (hg : ∀ w i j, Rel (bgX X) w (g' i j) (g i j)) : OpD (bgX X) (rI C g) (intR C g') := by
  intro w M H x y v u Q' Q R r1 r2 h k
  unfold intR at h
  split at h
  · cases r1; cases r2
    exact ⟨_, _, rfl, rfl, h.1, k _ M h.2 w _ H (Wd.Le.refl w) R (hg w _ _)⟩
  · exact h.elim
theorem intR0_d {g : Int → Int → V} {g' : Int → Int → D} (hg : ∀ w i j, Rel (bgX X) w (g' i j) (g i j)) : OpD (bgX X) (rI0 g) (intR0 g') := by
  intro w M H x y v u Q' Q R r1 r2 h k
  unfold intR0 at h
  split at h
  · cases r1; cases r2
    exact ⟨_, _, rfl, rfl, k _ M h w _ H (Wd.Le.refl w) R (hg w _ _)⟩
  · exact h.elim
abbrev subR : DR2 := intR0 fun i j => .int (i - j)
abbrev fdivR : DR2 := intR CDivN fun i j => .int (i.fdiv j)
abbrev modR : DR2 := intR (fun _ j => j ≠ 0) fun i j => .int (i.fmod j)
abbrev powR : DR2 := intR CPow fun i j => .int (i ^ j.toNat)
abbrev shlR : DR2 := intR CPow fun i j => .int (i * 2 ^ j.toNat)
theorem ox_sub : OpX X (binaryOp .Sub) subR := .of op_sub (intR0_d fun _ _ _ => .int _)
theorem ox_isub : OpX X (inplaceOp .Sub) subR := .of iop_sub (intR0_d fun _ _ _ => .int _)
theorem ox_fdiv : OpX X (binaryOp .FloorDiv) fdivR := .of op_fdivN (intR_d fun _ _ _ => .int _)
theorem ox_mod : OpX X (binaryOp .Mod) modR := .of op_modN (intR_d fun _ _ _ => .int _)
theorem ox_pow : OpX X (binaryOp .Pow) powR := .of op_pow (intR_d fun _ _ _ => .int _)
/-- a text several times -/
theorem op_mulS : OpR X (binaryOp .Mult) (fun x y H Q => ∃ (z : Str) (n : Int), x = .str z ∧ y = .int n ∧ MulOk z n ∧ Q (.str (Txt.mul z n)) H) := by
  intro pins s σ H x y v u Q I rx ry h
  obtain ⟨z, n, rfl, rfl, ok, q⟩ := h
  obtain ⟨t, rfl⟩ := rx
  obtain ⟨t', rfl⟩ := ry
  exact SB.mul ok fun t'' k => ⟨.str _, H, I.tok _, ⟨_, rfl⟩, q⟩
def mulR : DR2 := fun x y M Q => match x, y with
  | .int i, .int j => CMul i j ∧ Q (.int (i * j)) M
  | .str z, .int n => MulOk z n ∧ Q (.str (Txt.mul z n)) M
  | _, _ => False
theorem ox_mul : OpX X (binaryOp .Mult) mulR := .of (.or op_mul op_mulS) fun w M H x y v u Q' Q R r1 r2 h k => by
  unfold mulR at h
  split at h
  · cases r1; cases r2
    exact .inl ⟨_, _, rfl, rfl, h.1, k _ M h.2 w _ H (Wd.Le.refl w) R (.int _)⟩
  · cases r1; cases r2
    exact .inr ⟨_, _, rfl, rfl, h.1, k _ M h.2 w _ H (Wd.Le.refl w) R (.str _)⟩
  · exact h.elim
def negR : DR1 := fun x M Q => match x with | .int i => Q (.int (-i)) M | _ => False
theorem ux_neg : UnX X (unaryOp .USub) negR := .of un_neg fun w M H x v Q' Q R r1 h k => by
  unfold negR at h
  split at h
  · cases r1
    exact ⟨_, rfl, k _ M h w _ H (Wd.Le.refl w) R (.int _)⟩
  · exact h.elim
/-! comparisons of ints and texts -/
def ordR (p : Int → Int → Bool) (q : Str → Str → Bool) : DR2 := fun x y M Q => match x, y with
  | .int i, .int j => Q (.bl (p i j)) M
  | .str a, .str b => Q (.bl (q a b)) M
  | _, _ => False
theorem ordR_of {op : CmpOp} {p : Int → Int → Bool} {q : Str → Str → Bool} (h1 : OpR X (compareOp op) (rI0 fun i j => .bl (p i j))) (h2 : OpR X (compareOp op) (fun x y H Q => ∃ i j, x = .str i ∧ y = .str j ∧ Q (.bl (q i j)) H)) :
    OpX X (compareOp op) (ordR p q) := .of (.or h1 h2) fun w M H x y v u Q' Q R r1 r2 h k => by
  unfold ordR at h
  split at h
  · cases r1; cases r2
    exact .inl ⟨_, _, rfl, rfl, k _ M h w _ H (Wd.Le.refl w) R (.bl _)⟩
  · cases r1; cases r2
    exact .inr ⟨_, _, rfl, rfl, k _ M h w _ H (Wd.Le.refl w) R (.bl _)⟩
  · exact h.elim
def ltS (i j : Str) : Bool := decide (i.cps.toList < j.cps.toList)
abbrev ltR : DR2 := ordR (fun i j => decide (i < j)) ltS
abbrev leR : DR2 := ordR (fun i j => decide (i ≤ j)) (fun i j => !ltS j i)
abbrev gtR : DR2 := ordR (fun i j => decide (j < i)) (fun i j => ltS j i)
abbrev geR : DR2 := ordR (fun i j => decide (j ≤ i)) (fun i j => !ltS i j)
theorem ox_lt : OpX X (compareOp .Lt) ltR := ordR_of op_lt op_lt_str
theorem ox_le : OpX X (compareOp .LtE) leR := ordR_of op_le op_le_str
theorem ox_gt : OpX X (compareOp .Gt) gtR := ordR_of op_gt op_gt_str
theorem ox_ge : OpX X (compareOp .GtE) geR := ordR_of op_ge op_ge_str
/-! is None -/
def D.isN : D → Bool | .non => true | _ => false
def isNR : DR2 := fun x y M Q => match y with | .non => Q (.bl x.isN) M | _ => False
def notNR : DR2 := fun x y M Q => match y with | .non => Q (.bl (!x.isN)) M | _ => False
theorem rel_non {b : Bg} {w : Wd} {d : D} {v : V} (r : Rel b w d v) : decide (v = .non) = d.isN := by
  cases r <;> simp [D.isN]
theorem ox_isN : OpX X (compareOp .Is) isNR := .of op_isN fun w M H x y v u Q' Q R r1 r2 h k => by
  unfold isNR at h
  split at h
  · cases r2
    refine ⟨rfl, k _ M h w _ H (Wd.Le.refl w) R ?_⟩
    rw [rel_non r1]
    exact .bl _
  · exact h.elim
theorem ox_notN : OpX X (compareOp .IsNot) notNR := .of op_notN fun w M H x y v u Q' Q R r1 r2 h k => by
  unfold notNR at h
  split at h
  · cases r2
    refine ⟨rfl, k _ M h w _ H (Wd.Le.refl w) R ?_⟩
    rw [rel_non r1]
    exact .bl _
  · exact h.elim
end

/-! ### == of data -/
mutual
inductive PyOf (M : Store) : D → PyData → Prop
  | non : PyOf M .non .none
  | bl (b : Bool) : PyOf M (.bl b) (.bool b)
  | int (i : Int) : PyOf M (.int i) (.int i)
  | str (x : Str) : PyOf M (.str x) (.str x)
  | tup {ds : List D} {ps : List PyData} : PyOfs M ds ps → PyOf M (.tup ds) (.tuple ps)
  | lst {ds : List D} {ps : List PyData} : PyOfs M ds ps → PyOf M (.lst ds) (.list ps)
  | ref {n : Nat} {ds : List D} {ps : List PyData} : M[n]? = some (.lst ds) → PyOfs M ds ps → PyOf M (.ref n) (.list ps)
inductive PyOfs (M : Store) : List D → List PyData → Prop
  | nil : PyOfs M [] []
  | cons {d : D} {ds : List D} {p : PyData} {ps : List PyData} : PyOf M d p → PyOfs M ds ps → PyOfs M (d :: ds) (p :: ps)
end
mutual
theorem PyOf.dp {b : Bg} {w : Wd} {M : Store} {H : Hp} (R : RM b w M H) : ∀ (p : PyData) {d : D} {v : V}, PyOf M d p → Rel b w d v → Dp b.K H v p
  | .none, _, _, q, r => by cases q; cases r; exact .non
  | .bool _, _, _, q, r => by cases q; cases r; exact .bl _
  | .int _, _, _, q, r => by cases q; cases r; exact .int _
  | .str _, _, _, q, r => by cases q; cases r; exact .str _
  | .dict _, _, _, q, r => by cases q
  | .tuple ps, _, _, q, r => by
    cases q with
    | tup qs =>
      cases r with
      | tup s l rr => exact .tup (sqT_mono R.sub s) (PyOfs.dp R ps qs ⟨l, rr⟩)
  | .list ps, _, _, q, r => by
    cases q with
    | lst qs =>
      cases r with
      | lst s l rr => exact .lst (sqL_mono R.sub s) (PyOfs.dp R ps qs ⟨l, rr⟩)
    | ref hM qs =>
      cases r with
      | ref ea =>
        obtain ⟨_, u, eu, c⟩ := R.cell _ _ _ ea hM
        cases c with
        | lst rr => exact .lst (.inl (.inl eu)) (PyOfs.dp R ps qs rr)
theorem PyOfs.dp {b : Bg} {w : Wd} {M : Store} {H : Hp} (R : RM b w M H) : ∀ (ps : List PyData) {ds : List D} {vs : List V}, PyOfs M ds ps → RelL b w ds vs → DpAll b.K H vs ps
  | [], _, vs, q, r => by
    cases q
    have : vs = [] := List.length_eq_zero_iff.mp r.1.symm
    subst this
    exact .nil
  | p :: ps, _, vs, q, r => by
    cases q with
    | cons q1 q2 =>
      cases vs with
      | nil => cases r.1
      | cons v vs => exact .cons (PyOf.dp R p q1 (r.2 0 _ v rfl rfl)) (PyOfs.dp R ps q2 ⟨Nat.succ.inj r.1, fun i a b e1 e2 => r.2 (i + 1) a b e1 e2⟩)
end
def eqR : DR2 := fun x y M Q => match x, y with
  | .int i, .int j => Q (.bl (decide (i = j))) M
  | .str a, .str b => Q (.bl (decide (a = b))) M
  | .bl a, .bl b => Q (.bl (decide (a = b))) M
  | _, _ => ∃ p q, PyOf M x p ∧ PyOf M y q ∧ SeqAt.shaped p = true ∧ SeqAt.shaped q = true ∧ Q (.bl (PyData.eqv p q)) M
def neR : DR2 := fun x y M Q => match x, y with
  | .int i, .int j => Q (.bl (!decide (i = j))) M
  | .str a, .str b => Q (.bl (!decide (a = b))) M
  | .bl a, .bl b => Q (.bl (!decide (a = b))) M
  | _, _ => ∃ p q, PyOf M x p ∧ PyOf M y q ∧ SeqAt.shaped p = true ∧ SeqAt.shaped q = true ∧ Q (.bl (!PyData.eqv p q)) M
theorem eqv_dec {α : Type} [DecidableEq α] (a b : α) : (a == b) = decide (a = b) := by
  by_cases h : a = b <;> simp [h]
section
variable {X : Cx}
theorem ox_eq (hu : X.A.units + 64 < cLine) : OpX X (compareOp .Eq) eqR := .of (.or op_eq (op_eqD hu)) fun w M H x y v u Q' Q R r1 r2 h k => by
  unfold eqR at h
  split at h
  · cases r1; cases r2
    refine .inl ⟨rfl, k _ M h w _ H (Wd.Le.refl w) R ?_⟩
    rw [dec_int, eqv_dec]
    exact .bl _
  · cases r1; cases r2
    refine .inl ⟨rfl, k _ M h w _ H (Wd.Le.refl w) R ?_⟩
    rw [dec_str, eqv_dec]
    exact .bl _
  · cases r1; cases r2
    refine .inl ⟨rfl, k _ M h w _ H (Wd.Le.refl w) R ?_⟩
    rw [dec_bl, eqv_dec]
    exact .bl _
  · obtain ⟨p, q, h1, h2, s1, s2, h⟩ := h
    exact .inr ⟨p, q, h1.dp R p r1, h2.dp R q r2, s1, s2, k _ M h w _ H (Wd.Le.refl w) R (.bl _)⟩
theorem ox_ne (hu : X.A.units + 64 < cLine) : OpX X (compareOp .NotEq) neR := .of (.or op_ne (op_neD hu)) fun w M H x y v u Q' Q R r1 r2 h k => by
  unfold neR at h
  split at h
  · cases r1; cases r2
    refine .inl ⟨rfl, k _ M h w _ H (Wd.Le.refl w) R ?_⟩
    rw [dec_int, eqv_dec]
    exact .bl _
  · cases r1; cases r2
    refine .inl ⟨rfl, k _ M h w _ H (Wd.Le.refl w) R ?_⟩
    rw [dec_str, eqv_dec]
    exact .bl _
  · cases r1; cases r2
    refine .inl ⟨rfl, k _ M h w _ H (Wd.Le.refl w) R ?_⟩
    rw [dec_bl, eqv_dec]
    exact .bl _
  · obtain ⟨p, q, h1, h2, s1, s2, h⟩ := h
    exact .inr ⟨p, q, h1.dp R p r1, h2.dp R q r2, s1, s2, k _ M h w _ H (Wd.Le.refl w) R (.bl _)⟩

/-! ### built-ins by name -/
variable {a b e : Expr} {es : List Expr} {ta : DTE} {tr : DTA} {pos p : Pos} {x : Str}
def dCB (dr : DRC) (t : DTA) : DTE := fun ρ M Q => t ρ M fun xs M1 => dr xs M1 Q
theorem up_cb {b : Bg} {r : List V → Hp → VK → Prop} {dr : DRC} {t : DTA} (hr : CallD b r dr) {σ : St} {H : Hp} {Q : VK} (h : upE b (dCB dr t) σ H Q) : tCB r (upA b t) σ H Q := by
  obtain ⟨w, ρ, M, Q', R, h, k⟩ := h
  refine ⟨w, ρ, M, _, R, h, fun xs M1 h1 w1 vs H1 l1 R1 r1 => ?_⟩
  exact hr w1 M1 H1 xs vs Q' Q R1.m r1 h1 fun d M' q w' z H' l R' rz => k d M' q w' z H' (l1.trans l) ⟨R', R1.e.mono l⟩ rz
theorem de_callB {id : String} {dr : DRC} (hc : CallX X (.builtin id) dr) (hg : Gl X x) (hm : X.mg x = none) (hv : bootBuiltins x = some (.builtin id)) (ha : DA X (e :: es) tr) (hn : x ≠ "__name__" := by decide) (hdb : (x == ("__debug__" : Str)) = false := by decide)
    (he : starEach (e :: es) X.env = (false, eval e X.env) :: starEach es X.env := by rfl) (hpl : (backTo pos (starEach es X.env)).any (·.1) = false := by rfl) : DE X (.Call (.Name x p) (e :: es) [] pos) (dCB dr tr) :=
  peM (pe_callB hc hg hm hv ha hn hdb he hpl) fun _ _ _ h => up_cb rCX_d h
theorem de_callTy {T : String} {dr : DRC} (hc : CallX X (.type T) dr) (hg : Gl X x) (hm : X.mg x = none) (hv : bootBuiltins x = some (.type T)) (ha : DA X (e :: es) tr) (hn : x ≠ "__name__" := by decide) (hdb : (x == ("__debug__" : Str)) = false := by decide)
    (he : starEach (e :: es) X.env = (false, eval e X.env) :: starEach es X.env := by rfl) (hpl : (backTo pos (starEach es X.env)).any (·.1) = false := by rfl) : DE X (.Call (.Name x p) (e :: es) [] pos) (dCB dr tr) :=
  peM (pe_callTy hc hg hm hv ha hn hdb he hpl) fun _ _ _ h => up_cb rCX_d h
/-- by the first of the rules -/
theorem CallX.or {f : Value} {r r' : DRC} (h : CallX X f r) (h' : CallX X f r') : CallX X f (fun xs M Q => r xs M Q ∨ r' xs M Q) := fun pins s σ H xs us Q I rx ⟨w, M, dx, Q', R, r1, q, k⟩ => by
  rcases q with q | q
  · exact h pins s σ H xs us Q I rx ⟨w, M, dx, Q', R, r1, q, k⟩
  · exact h' pins s σ H xs us Q I rx ⟨w, M, dx, Q', R, r1, q, k⟩
theorem RelL.one {b : Bg} {w : Wd} {d : D} {vs : List V} (r : RelL b w [d] vs) : ∃ v, vs = [v] ∧ Rel b w d v := by
  match vs, r with
  | [v], r => exact ⟨v, rfl, r.2 0 d v rfl rfl⟩
  | [], r => cases r.1
  | _ :: _ :: _, r => exact absurd r.1 (by simp)
theorem RelL.two {b : Bg} {w : Wd} {d e : D} {vs : List V} (r : RelL b w [d, e] vs) : ∃ v u, vs = [v, u] ∧ Rel b w d v ∧ Rel b w e u := by
  match vs, r with
  | [v, u], r => exact ⟨v, u, rfl, r.2 0 d v rfl rfl, r.2 1 e u rfl rfl⟩
  | [], r => cases r.1
  | [_], r => exact absurd r.1 (by simp)
  | _ :: _ :: _ :: _, r => exact absurd r.1 (by simp)
theorem RelL.zero {b : Bg} {w : Wd} {vs : List V} (r : RelL b w [] vs) : vs = [] := List.length_eq_zero_iff.mp r.1.symm
def lenR : DRC := fun xs M Q => match xs with
  | [.str x] => x.length ≤ sizeLine ∧ Q (.int x.length) M
  | [x] => match viewS M x with | some ds => Q (.int ds.length) M | none => False
  | _ => False
theorem cx_len : CallX X (.builtin "len") lenR := .of (.or call_len_str call_len_seq) fun w M H xs vs Q' Q R r1 h k => by
  unfold lenR at h
  split at h
  · obtain ⟨v, rfl, r⟩ := r1.one
    cases r
    exact .inl ⟨_, rfl, h.1, k _ M h.2 w _ H (Wd.Le.refl w) R (.int _)⟩
  · obtain ⟨v, rfl, r⟩ := r1.one
    split at h
    · rename_i ds e
      obtain ⟨a, us, rfl, s, q⟩ := viewS_at R r e
      exact .inr ⟨a, us, rfl, s, by rw [← q.1]; exact k _ M h w _ H (Wd.Le.refl w) R (.int _)⟩
    · exact h.elim
  · exact h.elim
def absR : DRC := fun xs M Q => match xs with | [.int i] => Q (.int (if i < 0 then -i else i)) M | _ => False
theorem cx_abs : CallX X (.builtin "abs") absR := .of call_abs fun w M H xs vs Q' Q R r1 h k => by
  unfold absR at h
  split at h
  · obtain ⟨v, rfl, r⟩ := r1.one
    cases r
    exact ⟨_, rfl, k _ M h w _ H (Wd.Le.refl w) R (.int _)⟩
  · exact h.elim
def max2R : DRC := fun xs M Q => match xs with | [.int i, .int j] => Q (.int (if j > i then j else i)) M | _ => False
def min2R : DRC := fun xs M Q => match xs with | [.int i, .int j] => Q (.int (if j < i then j else i)) M | _ => False
theorem cx_max2 (hc : X.calm = true) : CallX X (.builtin "max") max2R := .of (call_max2 hc) fun w M H xs vs Q' Q R r1 h k => by
  unfold max2R at h
  split at h
  · obtain ⟨v, u, rfl, r, q⟩ := r1.two
    cases r; cases q
    exact ⟨_, _, rfl, k _ M h w _ H (Wd.Le.refl w) R (.int _)⟩
  · exact h.elim
theorem cx_min2 (hc : X.calm = true) : CallX X (.builtin "min") min2R := .of (call_min2 hc) fun w M H xs vs Q' Q R r1 h k => by
  unfold min2R at h
  split at h
  · obtain ⟨v, u, rfl, r, q⟩ := r1.two
    cases r; cases q
    exact ⟨_, _, rfl, k _ M h w _ H (Wd.Le.refl w) R (.int _)⟩
  · exact h.elim
def intCR : DRC := fun xs M Q => match xs with | [.int i] => Q (.int i) M | [.bl c] => Q (.int (if c then 1 else 0)) M | _ => False
theorem cx_int : CallX X (.type "int") intCR := .of call_int1 fun w M H xs vs Q' Q R r1 h k => by
  unfold intCR at h
  split at h
  · obtain ⟨v, rfl, r⟩ := r1.one
    cases r
    exact .inl ⟨_, rfl, k _ M h w _ H (Wd.Le.refl w) R (.int _)⟩
  · obtain ⟨v, rfl, r⟩ := r1.one
    cases r
    exact .inr ⟨_, rfl, k _ M h w _ H (Wd.Le.refl w) R (.int _)⟩
  · exact h.elim
/-- the signs of a text -/
def signs (x : Str) : List Str := x.cps.toList.map fun c => ⟨#[c]⟩
theorem call_list_text (hc : X.calm = true) : CallR X (.type "list") (fun xs H Q => ∃ x, xs = [.str x] ∧ x.length ≤ sizeLine ∧ ∀ p, H p = none → Q (.ref p) (upd H p (.lst ((signs x).map V.str)))) := by
  intro pins s σ H xs us Q I rx h
  obtain ⟨x, rfl, hz, q⟩ := h
  obtain ⟨u, rfl, ru⟩ := rx.one
  obtain ⟨t, rfl⟩ := ru
  refine call_list_str (I.ok.hd hc) x t (fun h' tk acc' c' hk e it => ?_) hz
  have hf : H s.heap.objs.size = none := I.hok.fresh (Nat.le_refl _)
  have hv : Vals ((signs x).map V.str) acc'.toList := by
    have hsz : acc'.size = x.cps.size := it.1
    have gen : ∀ (l : List V) (us : List Value), l.length = us.length → (∀ (i : Nat) (v : V) (u : Value), l[i]? = some v → us[i]? = some u → RelV v u) → Vals l us := by
      intro l
      induction l with
      | nil =>
        intro us hl _
        have : us = [] := List.length_eq_zero_iff.mp hl.symm
        subst this
        exact .nil
      | cons v l ih =>
        intro us hl h
        cases us with
        | nil => cases hl
        | cons u us => exact .cons (h 0 v u rfl rfl) (ih us (Nat.succ.inj hl) fun i v u e1 e2 => h (i + 1) v u e1 e2)
    refine gen _ _ (by simp [signs, hsz]) fun i v u e1 e2 => ?_
    obtain ⟨c, t, ec, rfl⟩ := it.2 i u (by simpa using e2)
    have e3 : x.cps.toList[i]? = some c := by simpa using ec
    rw [signs, List.map_map, List.getElem?_map, e3] at e1
    cases e1
    exact ⟨t, rfl⟩
  refine ⟨.ref s.heap.objs.size, _, I.laid (t' := tk) hk (Nat.le_refl _) ?_, rfl, q _ hf⟩
  refine ⟨?_, acc'.toList, c', hv, by simpa using e⟩
  show ((signs x).map V.str).length ≤ sizeLine
  rw [List.length_map, signs, List.length_map]
  exact hz
end
end DL

set_option Elab.async false
set_option linter.all false
set_option maxRecDepth 100000
set_option maxHeartbeats 2000000
/-! DLDict: dicts over data: keys ints and texts (dk), keys tuples, nested (dn). -/
namespace DL
open PySem L2
open PyProof.Rows hiding St

/-! ### data's keys -/
def dkey : D → Option Key
  | .int i => some (.inl i)
  | .str x => some (.inr x)
  | _ => none
mutual
def nkey : D → Option NestedKey
  | .non => some .none
  | .int i => some (.num i)
  | .str x => some (.text x)
  | .tup ds => (nkeys ds).map .tup
  | _ => none
def nkeys : List D → Option (List NestedKey)
  | [] => some []
  | d :: r => match nkey d, nkeys r with | some k, some ks => some (k :: ks) | _, _ => none
end
/-- a tuple as a key -/
def tkey : D → Option NestedKey
  | .tup ds => (nkeys ds).map .tup
  | _ => none
mutual
theorem nkey_kD : ∀ {d : D} {k : NestedKey}, nkey d = some k → d = kD k
  | .non, _, h => by cases h; rfl
  | .int _, _, h => by cases h; rfl
  | .str _, _, h => by cases h; rfl
  | .bl _, _, h => by cases h
  | .lst _, _, h => by cases h
  | .dk _, _, h => by cases h
  | .dn _, _, h => by cases h
  | .ref _, _, h => by cases h
  | .ty _, _, h => by cases h
  | .tup ds, k, h => by
    simp only [nkey, Option.map_eq_some_iff] at h
    obtain ⟨ks, e, rfl⟩ := h
    rw [nkeys_kDs e]
    rfl
theorem nkeys_kDs : ∀ {ds : List D} {ks : List NestedKey}, nkeys ds = some ks → ds = kDs ks
  | [], _, h => by cases h; rfl
  | d :: r, ks, h => by
    simp only [nkeys] at h
    split at h
    · rename_i k ks' e1 e2
      cases h
      rw [kDs, ← nkey_kD e1, ← nkeys_kDs e2]
    · cases h
end
theorem tkey_kD {d : D} {k : NestedKey} (h : tkey d = some k) : d = kD k ∧ ∃ ks, k = .tup ks := by
  cases d with
  | tup ds =>
    refine ⟨nkey_kD (d := .tup ds) h, ?_⟩
    simp only [tkey, Option.map_eq_some_iff] at h
    obtain ⟨ks, _, rfl⟩ := h
    exact ⟨ks, rfl⟩
  | _ => cases h

section
variable {κ : Type} [DecidableEq κ]
def aGet {α : Type} (kvs : List (κ × α)) (k : κ) : Option α := (kvs.find? fun p => decide (p.1 = k)).map (·.2)
def aPut {α : Type} (kvs : List (κ × α)) (k : κ) (v : α) : List (κ × α) := if (aGet kvs k).isSome then kvs.map (fun p => if p.1 = k then (p.1, v) else p) else kvs ++ [(k, v)]
theorem aGet_nil {α : Type} (k : κ) : aGet ([] : List (κ × α)) k = none := rfl
theorem aGet_cons {α : Type} (p : κ × α) (r : List (κ × α)) (k : κ) : aGet (p :: r) k = if p.1 = k then some p.2 else aGet r k := by
  by_cases h : p.1 = k <;> simp [aGet, List.find?_cons, h]
end
theorem valV_eq {κ : Type} [DecidableEq κ] (kvs : List (κ × V)) (k : κ) : valV kvs k = aGet kvs k := rfl
theorem putK_eq {κ : Type} [DecidableEq κ] (kvs : List (κ × V)) (k : κ) (v : V) : putK kvs k v = aPut kvs k v := by
  unfold putK aPut
  rw [valV_any k kvs, valV_eq]
theorem aGet_rel {κ : Type} [DecidableEq κ] {R : D → V → Prop} : ∀ {ds : List (κ × D)} {vs : List (κ × V)}, ds.map (·.1) = vs.map (·.1) → (∀ (i : Nat) (d : κ × D) (v : κ × V), ds[i]? = some d → vs[i]? = some v → R d.2 v.2) → ∀ k,
    (aGet ds k = none ∧ aGet vs k = none) ∨ ∃ d v, aGet ds k = some d ∧ aGet vs k = some v ∧ R d v
  | [], [], _, _, _ => .inl ⟨rfl, rfl⟩
  | [], _ :: _, h, _, _ => by cases h
  | _ :: _, [], h, _, _ => by cases h
  | d :: ds, v :: vs, h, q, k => by
    simp only [List.map_cons, List.cons.injEq] at h
    rw [aGet_cons, aGet_cons]
    by_cases e : d.1 = k
    · rw [if_pos e, if_pos (h.1 ▸ e)]
      exact .inr ⟨_, _, rfl, rfl, q 0 d v rfl rfl⟩
    · rw [if_neg e, if_neg (h.1 ▸ e)]
      exact aGet_rel h.2 (fun i a b e1 e2 => q (i + 1) a b e1 e2) k
theorem aPut_keys {κ : Type} [DecidableEq κ] {α β : Type} {ds : List (κ × α)} {vs : List (κ × β)} (h : ds.map (·.1) = vs.map (·.1)) (k : κ) (d : α) (v : β) (hs : (aGet ds k).isSome = (aGet vs k).isSome) : (aPut ds k d).map (·.1) = (aPut vs k v).map (·.1) := by
  unfold aPut
  rw [hs]
  split
  · rw [List.map_map, List.map_map]
    have e : ∀ {γ : Type} (l : List (κ × γ)) (c : γ), l.map ((·.1) ∘ fun p => if p.1 = k then (p.1, c) else p) = l.map (·.1) := fun l c => List.map_congr_left fun p _ => by
      by_cases e : p.1 = k <;> simp [e]
    rw [e, e, h]
  · simp [h]
theorem aPut_rel {κ : Type} [DecidableEq κ] {R : D → V → Prop} {ds : List (κ × D)} {vs : List (κ × V)} (h : ds.map (·.1) = vs.map (·.1)) (q : ∀ (i : Nat) (d : κ × D) (v : κ × V), ds[i]? = some d → vs[i]? = some v → R d.2 v.2) (k : κ) {d : D} {v : V} (r : R d v) :
    (aPut ds k d).map (·.1) = (aPut vs k v).map (·.1) ∧ ∀ (i : Nat) (x : κ × D) (y : κ × V), (aPut ds k d)[i]? = some x → (aPut vs k v)[i]? = some y → R x.2 y.2 := by
  have hs : (aGet ds k).isSome = (aGet vs k).isSome := by
    rcases aGet_rel h q k with ⟨e1, e2⟩ | ⟨_, _, e1, e2, _⟩ <;> rw [e1, e2] <;> rfl
  refine ⟨aPut_keys h k d v hs, fun i x y ex ey => ?_⟩
  unfold aPut at ex ey
  rw [hs] at ex
  by_cases c : (aGet vs k).isSome = true
  · rw [if_pos c] at ex ey
    rw [List.getElem?_map] at ex ey
    obtain ⟨x', ex', rfl⟩ := Option.map_eq_some_iff.mp ex
    obtain ⟨y', ey', rfl⟩ := Option.map_eq_some_iff.mp ey
    have ek : x'.1 = y'.1 := by
      have := congrArg (fun l => l[i]?) h
      simp [List.getElem?_map, ex', ey'] at this
      exact this
    by_cases e : x'.1 = k
    · rw [if_pos e, if_pos (ek ▸ e)]
      exact r
    · rw [if_neg e, if_neg (ek ▸ e)]
      exact q i x' y' ex' ey'
  · rw [if_neg c] at ex ey
    have hl := len_of_map h
    by_cases hi : i < ds.length
    · rw [List.getElem?_append_left hi] at ex
      rw [List.getElem?_append_left (hl ▸ hi)] at ey
      exact q i x y ex ey
    · rw [List.getElem?_append_right (Nat.le_of_not_lt hi)] at ex
      rw [List.getElem?_append_right (by rw [← hl]; exact Nat.le_of_not_lt hi), ← hl] at ey
      have hz : i - ds.length = 0 := by
        have := (List.getElem?_eq_some_iff.mp ex).1
        simp at this
        omega
      rw [hz] at ex ey
      cases ex; cases ey
      exact r

/-! ### nested keys in the heap -/
section
variable {X : Cx} {pins : List (Addr × Obj)} {σ : St} {H : Hp} {s : Shared} {w : Wd} {M : Store}
mutual
theorem nested_is (I : Inv X pins σ H s) (R : RM (bgX X) w M H) : ∀ (k : NestedKey) {v : V} {u : Value}, Rel (bgX X) w (kD k) v → RelV v u → NestedIs s.heap k u
  | .none, _, _, r, q => by cases r; cases q; exact .none
  | .num i, _, _, r, q => by cases r; obtain ⟨t, rfl⟩ := q; exact .int _ _
  | .text i, _, _, r, q => by cases r; obtain ⟨t, rfl⟩ := q; exact .text _ _
  | .tup ks, v, u, r, q => by
    have r' : Rel (bgX X) w (.tup (kDs ks)) v := r
    cases r' with
    | tup sq l rr =>
      cases q
      obtain ⟨its, rv, ⟨o, ho, hc, n, hd⟩, _⟩ := I.tuple (sqT_mono R.sub sq)
      refine .tup ho hc hd ?_
      have := nested_all I R ks (vs := _) (us := its) ⟨l, rr⟩ rv
      simpa using this
theorem nested_all (I : Inv X pins σ H s) (R : RM (bgX X) w M H) : ∀ (ks : List NestedKey) {vs : List V} {us : List Value}, RelL (bgX X) w (kDs ks) vs → Vals vs us → NestedAll s.heap ks us
  | [], vs, us, r, q => by
    have e : vs = [] := List.length_eq_zero_iff.mp r.1.symm
    subst e
    cases q
    exact .nil
  | k :: ks, vs, us, r, q => by
    cases vs with
    | nil => cases r.1
    | cons v vs =>
      cases q with
      | cons q1 q2 => exact .cons (nested_is I R k (r.2 0 _ v rfl rfl) q1) (nested_all I R ks ⟨Nat.succ.inj r.1, fun i a b e1 e2 => r.2 (i + 1) a b e1 e2⟩ q2)
end
/-- a dict with nested keys that is read: where it stands -/
structure DnAt (b : Bg) (w : Wd) (H : Hp) (a : Addr) (ds : List (NestedKey × D)) (xs : List (NestedKey × Addr × Value)) (f : Nat → V) : Prop where
  at_ : H a = some (dnO b a xs)
  keys : ds.map (·.1) = xs.map (·.1)
  vals : ∀ (i : Nat) (x : NestedKey × Addr × Value), xs[i]? = some x → RelV (f i) x.2.2
  ks : ∀ (i : Nat) (x : NestedKey × Addr × Value), xs[i]? = some x → Rel b w (kD x.1) (.ref x.2.1)
  rel : ∀ (i : Nat) (d : NestedKey × D), ds[i]? = some d → Rel b w d.2 (f i)
theorem DnAt.of {b : Bg} {w : Wd} {M : Store} {H : Hp} {ds : List (NestedKey × D)} {v : V} (R : RM b w M H) (r : Rel b w (.dn ds) v) : ∃ a xs f, v = .ref a ∧ DnAt b w H a ds xs f := by
  cases r with
  | dn e k q1 q2 q3 => exact ⟨_, _, _, rfl, R.sub _ _ e, k, q1, q2, q3⟩
theorem DnAt.cell {b : Bg} {w : Wd} {M : Store} {H : Hp} {ds : List (NestedKey × D)} {v : V} {n : Nat} (R : RM b w M H) (r : Rel b w (.ref n) v) (e : M[n]? = some (.dn ds)) : ∃ a xs f, v = .ref a ∧ w.as[n]? = some a ∧ DnAt b w H a ds xs f := by
  cases r with
  | ref ea =>
    obtain ⟨_, u, eu, c⟩ := R.cell _ _ _ ea e
    cases c with
    | dn k q1 q2 q3 => exact ⟨_, _, _, rfl, ea, eu, k, q1, q2, q3⟩
theorem DnAt.dict {a : Addr} {ds : List (NestedKey × D)} {xs : List (NestedKey × Addr × Value)} {f : Nat → V} (I : Inv X pins σ H s) (R : RM (bgX X) w M H) (d : DnAt (bgX X) w H a ds xs f) :
    s.heap.DictOfH (nestedKind X.prog X.w) a xs ∧ xs.length ≤ sizeLine ∧ (a == sysModules) = false := by
  obtain ⟨⟨o, es, ep, h1, h2, h3, h4, h5, h6, h7, h8⟩, _⟩ := I.hok a _ d.at_
  refine ⟨⟨o, es, ep, h1, h2, h3, h4, fun x hx => ?_, h5⟩, h6, h7⟩
  obtain ⟨i, e⟩ := List.getElem?_of_mem hx
  exact ⟨nested_is I R x.1 (d.ks i x e) rfl, h8 x hx⟩
theorem DnAt.find : ∀ {ds : List (NestedKey × D)} {xs : List (NestedKey × Addr × Value)} {f : Nat → V} {R : D → V → Prop}, ds.map (·.1) = xs.map (·.1) → (∀ (i : Nat) (x : NestedKey × Addr × Value), xs[i]? = some x → RelV (f i) x.2.2) → (∀ (i : Nat) (d : NestedKey × D), ds[i]? = some d → R d.2 (f i)) → ∀ k,
    (aGet ds k = none ∧ atKey xs k = none) ∨ ∃ d v p, aGet ds k = some d ∧ atKey xs k = some p ∧ RelV v p.2 ∧ R d v
  | [], [], _, _, _, _, _, _ => .inl ⟨rfl, rfl⟩
  | [], _ :: _, _, _, h, _, _, _ => by cases h
  | _ :: _, [], _, _, h, _, _, _ => by cases h
  | d :: ds, x :: xs, f, R, h, q1, q2, k => by
    simp only [List.map_cons, List.cons.injEq] at h
    rw [aGet_cons]
    have e' : atKey (x :: xs) k = if x.1 = k then some x.2 else atKey xs k := by
      by_cases e : x.1 = k <;> simp [atKey, List.find?_cons, e]
    rw [e']
    by_cases e : d.1 = k
    · rw [if_pos e, if_pos (h.1 ▸ e)]
      exact .inr ⟨_, _, _, rfl, rfl, q1 0 x rfl, q2 0 d rfl⟩
    · rw [if_neg e, if_neg (h.1 ▸ e)]
      exact DnAt.find (f := fun i => f (i + 1)) h.2 (fun i x e => q1 (i + 1) x e) (fun i d e => q2 (i + 1) d e) k

/-- what stands at a key: none: it is no dict, or no such key can be in it -/
def dGet (M : Store) (x y : D) : Option (Option D) :=
  match x with
  | .dk kvs => (dkey y).map (aGet kvs)
  | .dn kvs => (tkey y).bind fun k => if k.depth ≤ 8 then some (aGet kvs k) else none
  | .ref n => match M[n]? with
    | some (.dk kvs) => (dkey y).map (aGet kvs)
    | some (.dn kvs) => (tkey y).bind fun k => if k.depth ≤ 8 then some (aGet kvs k) else none
    | _ => none
  | _ => none
theorem room8 {A : Around} (hu : A.units + 64 < cLine) : (nestedKind X.prog X.w).room A.in1 := by
  show A.units + 1 + 8 < cLine
  omega
/-- the two kinds at once -/
inductive DicAt (b : Bg) (w : Wd) (H : Hp) (a : Addr) (y : D) (u : V) : Option D → Prop
  | dk {o : Option D} {ov : Option V} : DGet H a u ov → (o = none ∧ ov = none ∨ ∃ d v, o = some d ∧ ov = some v ∧ Rel b w d v) → DicAt b w H a y u o
  | dn {ds : List (NestedKey × D)} {xs : List (NestedKey × Addr × Value)} {f : Nat → V} {k : NestedKey} {p : Addr} : DnAt b w H a ds xs f → y = kD k → u = .ref p → k.depth ≤ 8 → DicAt b w H a y u (aGet ds k)
theorem dkey_v {b : Bg} {w : Wd} {y : D} {u : V} {k : Key} (e : dkey y = some k) (r : Rel b w y u) : u = kV k := by
  cases r <;> cases e <;> rfl
theorem tkey_v {b : Bg} {w : Wd} {y : D} {u : V} {k : NestedKey} (e : tkey y = some k) (r : Rel b w y u) : y = kD k ∧ ∃ p, u = .ref p := by
  obtain ⟨h, ks, rfl⟩ := tkey_kD e
  refine ⟨h, ?_⟩
  rw [h] at r
  cases r with
  | tup _ _ _ => exact ⟨_, rfl⟩
theorem dic_at {b : Bg} {w : Wd} {M : Store} {H : Hp} {x y : D} {v u : V} {o : Option D} (R : RM b w M H) (r1 : Rel b w x v) (r2 : Rel b w y u) (e : dGet M x y = some o) : ∃ a, v = .ref a ∧ DicAt b w H a y u o := by
  have caseK : ∀ {kvs : List (Key × D)} {vs : List (Key × V)} {a : Addr} {k : Key}, dkey y = some k → Rd H a (.dK vs) → kvs.map (·.1) = vs.map (·.1) → (∀ (i : Nat) (d : Key × D) (v : Key × V), kvs[i]? = some d → vs[i]? = some v → Rel b w d.2 v.2) → DicAt b w H a y u (aGet kvs k) := by
    intro kvs vs a k ek rd hk hq
    rw [dkey_v ek r2]
    exact .dk (.inl ⟨vs, k, rd, rfl, rfl⟩) (aGet_rel (R := Rel b w) hk hq k)
  cases r1 with
  | @dk a kvs ds s l q =>
    simp only [dGet, Option.map_eq_some_iff] at e
    obtain ⟨k, ek, rfl⟩ := e
    exact ⟨_, rfl, caseK ek (rd_mono R.sub s) l q⟩
  | dn s l q1 q2 q3 =>
    simp only [dGet, Option.bind_eq_some_iff] at e
    obtain ⟨k, ek, e⟩ := e
    obtain ⟨ey, p, rfl⟩ := tkey_v ek r2
    split at e
    · rename_i hd
      cases e
      exact ⟨_, rfl, .dn ⟨R.sub _ _ s, l, q1, q2, q3⟩ ey rfl hd⟩
    · cases e
  | ref ea =>
    simp only [dGet] at e
    split at e
    · rename_i hM
      obtain ⟨_, ho, eu, c⟩ := R.cell _ _ _ ea hM
      cases c with
      | dk l q =>
        simp only [Option.map_eq_some_iff] at e
        obtain ⟨k, ek, rfl⟩ := e
        exact ⟨_, rfl, caseK ek (.inl eu) l q⟩
    · rename_i hM
      obtain ⟨_, ho, eu, c⟩ := R.cell _ _ _ ea hM
      cases c with
      | dn l q1 q2 q3 =>
        simp only [Option.bind_eq_some_iff] at e
        obtain ⟨k, ek, e⟩ := e
        obtain ⟨ey, p, rfl⟩ := tkey_v ek r2
        split at e
        · rename_i hd
          cases e
          exact ⟨_, rfl, .dn ⟨eu, l, q1, q2, q3⟩ ey rfl hd⟩
        · cases e
    · cases e
  | _ => cases e
theorem DicAt.typeIs {a : Addr} {y : D} {u : V} {o : Option D} (I : Inv X pins σ H s) (R : RM (bgX X) w M H) (d : DicAt (bgX X) w H a y u o) : s.TypeIs (.ref a) "dict" := by
  cases d with
  | dk g _ => exact dict_typeIs I g
  | dn d _ _ _ => exact (d.dict I R).1.typeIs
end

/-! ### in, not in, d[k] -/
section
variable {X : Cx}
theorem len_aPut {κ α : Type} [DecidableEq κ] (kvs : List (κ × α)) (k : κ) (v : α) : (aPut kvs k v).length ≤ kvs.length + 1 := by
  unfold aPut
  split <;> simp
theorem vIs {pins : List (Addr × Obj)} {σ : St} {H : Hp} {s : Shared} {w : Wd} {M : Store} {k : NestedKey} {p : Addr} {y : D} (I : Inv X pins σ H s) (R : RM (bgX X) w M H) (e : y = kD k) (r : Rel (bgX X) w y (.ref p)) (hd : k.depth ≤ 8) :
    (nestedKind X.prog X.w).is s.heap k p := ⟨nested_is I R k (u := .ref p) (e ▸ r) (show RelV (.ref p) (.ref p) from rfl), hd⟩
/-- y in x, a dict -/
def inR : DR2 := fun y x M Q => match dGet M x y with | some o => Q (.bl o.isSome) M | none => False
def notInR : DR2 := fun y x M Q => match dGet M x y with | some o => Q (.bl (!o.isSome)) M | none => False
theorem ox_inD (hu : X.A.units + 64 < cLine) : OpX X (compareOp .In) inR := by
  intro pins s σ H y x uv xv Q I ry rx ⟨w, M, dy, dx, Q', R, r1, r2, q, k⟩
  unfold inR at q
  split at q
  · rename_i o e
    obtain ⟨a, rfl, d⟩ := dic_at R r2 r1 e
    cases rx
    cases d with
    | @dk o ov g hg =>
      have eo : o.isSome = ov.isSome := by rcases hg with ⟨e1, e2⟩ | ⟨_, _, e1, e2, _⟩ <;> (rw [e1, e2]; try rfl)
      exact d_in (by omega) I g ry fun s' I' => ⟨.bl (o.isSome), H, I', (by rw [eo]; rfl), k _ M q w _ H (Wd.Le.refl w) R (.bl _)⟩
    | @dn ds xs f kk p d ey ep hd =>
      subst ep
      cases ry
      obtain ⟨dd, hz, hs⟩ := d.dict I R
      refine wpAny_in_heap (room8 hu) (vIs I R ey r1 hd) hs dd ⟨.bl _, H, I.tok _, rfl, ?_⟩
      have eo := DnAt.find (R := fun _ _ => True) d.keys d.vals (fun _ _ _ => trivial) kk
      rcases eo with ⟨e1, e2⟩ | ⟨_, _, _, e1, e2, _⟩ <;> (rw [e2]; rw [e1] at q; exact k _ M q w _ H (Wd.Le.refl w) R (.bl _))
  · exact q.elim
theorem ox_notInD (hu : X.A.units + 64 < cLine) : OpX X (compareOp .NotIn) notInR := by
  intro pins s σ H y x uv xv Q I ry rx ⟨w, M, dy, dx, Q', R, r1, r2, q, k⟩
  unfold notInR at q
  split at q
  · rename_i o e
    obtain ⟨a, rfl, d⟩ := dic_at R r2 r1 e
    cases rx
    cases d with
    | @dk o ov g hg =>
      have eo : o.isSome = ov.isSome := by rcases hg with ⟨e1, e2⟩ | ⟨_, _, e1, e2, _⟩ <;> (rw [e1, e2]; try rfl)
      exact d_notIn (by omega) I g ry fun s' I' => ⟨.bl (!o.isSome), H, I', (by rw [eo]; rfl), k _ M q w _ H (Wd.Le.refl w) R (.bl _)⟩
    | @dn ds xs f kk p d ey ep hd =>
      subst ep
      cases ry
      obtain ⟨dd, hz, hs⟩ := d.dict I R
      refine wpAny_notIn_heap (room8 hu) (vIs I R ey r1 hd) hs dd ⟨.bl _, H, I.tok _, rfl, ?_⟩
      have eo := DnAt.find (R := fun _ _ => True) d.keys d.vals (fun _ _ _ => trivial) kk
      rcases eo with ⟨e1, e2⟩ | ⟨_, _, _, e1, e2, _⟩ <;> (rw [e2]; rw [e1] at q; exact k _ M q w _ H (Wd.Le.refl w) R (.bl _))
  · exact q.elim
/-- x[y], a dict, the key there: by getItem -/
theorem dic_item (hu : X.A.units + 64 < cLine) {pins : List (Addr × Obj)} {s : Shared} {σ : St} {H : Hp} {w : Wd} {M : Store} {x y d : D} {v u : V} {vv uu : Value} {E : Value → Shared → Prop} {Q : VK} {Q' : DK} (I : Inv X pins σ H s) (rv : RelV v vv) (ru : RelV u uu)
    (R : RM (bgX X) w M H) (r1 : Rel (bgX X) w x v) (r2 : Rel (bgX X) w y u) (e : dGet M x y = some (some d)) (q : Q' d M)
    (k : ∀ d M', Q' d M' → ∀ (w' : Wd) (z : V) (H' : Hp), w.Le w' → RM (bgX X) w' M' H' → Rel (bgX X) w' d z → Q z H') :
    s.TypeIs vv "dict" ∧ wpAny (model X.prog X.w) X.A (getItem vv uu) (EP X pins σ Q) E s := by
  obtain ⟨a, rfl, g⟩ := dic_at R r1 r2 e
  cases rv
  refine ⟨g.typeIs I R, ?_⟩
  generalize ho : some d = o at g
  cases g with
  | dk g hg =>
    rcases hg with ⟨e1, _⟩ | ⟨d', v', e1, e2, rd⟩
    · rw [e1] at ho; cases ho
    · rw [e1] at ho; cases ho
      rw [e2] at g
      exact d_getItem (by omega) I g ru fun w' s' I' rw' => ⟨v', H, I', rw', k _ M q w v' H (Wd.Le.refl w) R rd⟩
  | dn g ey ep hd =>
    subst ep
    cases ru
    obtain ⟨dd, hz, hs⟩ := g.dict I R
    rcases DnAt.find (R := Rel (bgX X) w) g.keys g.vals g.rel _ with ⟨e1, e2⟩ | ⟨d', v', p', e1, e2, rv', rd⟩
    · rw [e1] at ho; cases ho
    · rw [e1] at ho; cases ho
      exact wpAny_getItem_heap (room8 hu) (vIs I R ey r2 hd) dd e2 ⟨v', H, I.tok _, rv', k _ M q w v' H (Wd.Le.refl w) R rd⟩
/-- the tail of a subscript of a dict -/
theorem tail_dict {prog : Program} {w : World} {A : Around} {E : Value → Shared → Prop} {s : Shared} {value slice : Expr} {o i : Value} {Q : Value → Shared → Prop} (hT : s.TypeIs o "dict") (hs : subscripted slice false o i = operate [o, i] (getItem o i))
    (h : wpAny (model prog w) A (getItem o i) Q E s) : wpAny (model prog w) A (subscriptTail value slice o i) Q E s := by
  unfold subscriptTail
  refine wpAny_bind ?_
  rw [getitemInPython_of_ne hT.not_modules]
  refine wpAny_bind (wpAny_specialOf hT PySem.F.slot_dict_getitem.lookup ?_)
  have fin : wpAny (model prog w) A (subscripted slice false o i) (fun r s₃ => wpAny (model prog w) A (letTemporaryGo value o r >>= fun _ => pure r) Q E s₃) E s := by
    rw [hs]
    exact wpAny_operating (wpAny_mono h (fun r s₃ h₃ => wpAny_bind (wpAny_letTemporaryGo (wpAny_pure h₃))) fun _ _ x => x)
  first
    | exact wpAny_pure (wpAny_bind fin)
    | exact wpAny_bind (wpAny_pure (wpAny_bind fin))
    | exact wpAny_bind fin

/-! ### x[y]: a text, a list, a tuple, a dict -/
def intOf : D → Option Int
  | .int i => some i
  | _ => none
theorem intOf_eq {y : D} {i : Int} (h : intOf y = some i) : y = .int i := by
  cases y <;> cases h
  rfl
def ixD (M : Store) (x y : D) : Option D :=
  match x with
  | .str z => (intOf y).bind fun i => (atI z.cps.toList i).map fun c => .str ⟨#[c]⟩
  | x => match viewS M x with
    | some ds => (intOf y).bind (atI ds)
    | none => (dGet M x y).bind id
def ixR : DR2 := fun x y M Q => (match x with | .str z => z.length ≤ sizeLine | _ => True) ∧ match ixD M x y with | some d => Q d M | none => False
theorem atI_rel {b : Bg} {w : Wd} {ds : List D} {vs : List V} (r : RelL b w ds vs) {i : Int} {d : D} (e : atI ds i = some d) : ∃ v, atI vs i = some v ∧ Rel b w d v := by
  unfold atI at e ⊢
  rw [← r.1]
  obtain ⟨j, ej, e⟩ := Option.bind_eq_some_iff.mp e
  obtain ⟨v, ev, rr⟩ := r.get e
  exact ⟨v, by rw [ej]; exact ev, rr⟩
theorem ix_all (hu : X.A.units + 64 < cLine) : IxR X (rX (bgX X) ixR) := by
  intro value slice pins s σ H x y v u Q I rx ry ⟨w, M, dx, dy, Q', R, r1, r2, q, k⟩ hs
  obtain ⟨hz, q⟩ := q
  split at q
  · rename_i d e
    have caseD : viewS M dx = none → (∀ z, dx ≠ .str z) → wpAny (model X.prog X.w) X.A (subscriptTail value slice v u) (EP X pins σ Q) X.xe s := by
      intro hv hn
      have e' : dGet M dx dy = some (some d) := by
        have e2 : (match viewS M dx with | some ds => (intOf dy).bind (atI ds) | none => (dGet M dx dy).bind id) = some d := by
          cases dx <;> first | exact e | exact absurd rfl (hn _)
        rw [hv] at e2
        obtain ⟨o, e3, e4⟩ := Option.bind_eq_some_iff.mp e2
        rw [e3]
        exact congrArg some e4
      obtain ⟨hT, hg⟩ := dic_item (E := X.xe) hu I rx ry R r1 r2 e' q k
      exact tail_dict hT hs hg
    have caseS : ∀ ds, viewS M dx = some ds → (∀ z, dx ≠ .str z) → wpAny (model X.prog X.w) X.A (subscriptTail value slice v u) (EP X pins σ Q) X.xe s := by
      intro ds hv hn
      have e2 : (match viewS M dx with | some ds => (intOf dy).bind (atI ds) | none => (dGet M dx dy).bind id) = some d := by
        cases dx <;> first | exact e | exact absurd rfl (hn _)
      rw [hv] at e2
      obtain ⟨i, e3, e4⟩ := Option.bind_eq_some_iff.mp e2
      rw [intOf_eq e3] at r2
      cases r2
      obtain ⟨a, vs, rfl, sq, rl⟩ := viewS_at R r1 hv
      obtain ⟨v', ev', rd⟩ := atI_rel rl e4
      rcases sq with sq | sq
      · exact ix_list value slice pins s σ H _ _ v u Q I rx ry ⟨_, _, _, v', rfl, rfl, sq, ev', k _ M q w _ H (Wd.Le.refl w) R rd⟩ hs
      · exact ix_tup value slice pins s σ H _ _ v u Q I rx ry ⟨_, _, _, v', rfl, rfl, sq, ev', k _ M q w _ H (Wd.Le.refl w) R rd⟩ hs
    by_cases hn : ∀ z, dx ≠ .str z
    · cases hv : viewS M dx with
      | none => exact caseD hv hn
      | some ds => exact caseS ds hv hn
    · cases dx with
      | str z =>
        simp only [ixD] at e
        obtain ⟨i, e3, e4⟩ := Option.bind_eq_some_iff.mp e
        rw [intOf_eq e3] at r2
        cases r1
        cases r2
        obtain ⟨c, ec, rfl⟩ := Option.map_eq_some_iff.mp e4
        exact ix_str value slice pins s σ H _ _ v u Q I rx ry ⟨z, i, c, rfl, rfl, hz, ec, k _ M q w _ H (Wd.Le.refl w) R (.str _)⟩ hs
      | _ => exact absurd (fun z => by simp) hn
  · exact q.elim
variable {a b : Expr} {ta tb : DTE} {pos : Pos}
theorem de_ix (hu : X.A.units + 64 < cLine) (ha : DE X a ta) (hb : DE X b tb) (hs : PlainIx b) : DE X (.Subscript a b pos) (dOp ixR ta tb) :=
  peM (pe_ix (ix_all hu) ha hb hs) fun _ _ _ h => up_op rX_d h
end
end DL

set_option Elab.async false
set_option linter.all false
set_option maxRecDepth 100000
set_option maxHeartbeats 2000000
/-! DLMeth: stores, methods, new dicts over data. -/
namespace DL
open PySem L2
open PyProof.Rows hiding St

section
variable {X : Cx} {pins : List (Addr × Obj)} {σ : St} {H : Hp} {s : Shared} {w : Wd} {M : Store}
/-- a pair put into a dict with nested keys -/
theorem dn_put {b : Bg} {w : Wd} {ds : List (NestedKey × D)} {xs : List (NestedKey × Addr × Value)} {f : Nat → V} {k : NestedKey} {p : Addr} {d : D} {v : V} {vv : Value}
    (keys : ds.map (·.1) = xs.map (·.1)) (vals : ∀ (i : Nat) (x : NestedKey × Addr × Value), xs[i]? = some x → RelV (f i) x.2.2) (ks : ∀ (i : Nat) (x : NestedKey × Addr × Value), xs[i]? = some x → Rel b w (kD x.1) (.ref x.2.1))
    (rel : ∀ (i : Nat) (d : NestedKey × D), ds[i]? = some d → Rel b w d.2 (f i)) (rk : Rel b w (kD k) (.ref p)) (rv : RelV v vv) (rd : Rel b w d v) :
    ∃ f' : Nat → V, (aPut ds k d).map (·.1) = (storedH xs k p vv).map (·.1) ∧ (∀ (i : Nat) (x : NestedKey × Addr × Value), (storedH xs k p vv)[i]? = some x → RelV (f' i) x.2.2) ∧ (∀ (i : Nat) (x : NestedKey × Addr × Value), (storedH xs k p vv)[i]? = some x → Rel b w (kD x.1) (.ref x.2.1)) ∧
      ∀ (i : Nat) (d' : NestedKey × D), (aPut ds k d)[i]? = some d' → Rel b w d'.2 (f' i) := by
  have hs : (aGet ds k).isSome = (atKey xs k).isSome := by
    rcases DnAt.find (R := fun _ _ => True) keys vals (fun _ _ _ => trivial) k with ⟨e1, e2⟩ | ⟨_, _, _, e1, e2, _⟩ <;> (rw [e1, e2]; try rfl)
  have hl := len_of_map keys
  cases c : (atKey xs k).isSome with
  | true =>
    have e1 : aPut ds k d = ds.map (fun p => if p.1 = k then (p.1, d) else p) := by unfold aPut; rw [hs, c]; rfl
    have e2 : storedH xs k p vv = xs.map (putAt k vv) := by unfold storedH; rw [c]; rfl
    rw [e1, e2]
    refine ⟨fun i => match xs[i]? with | some x => if x.1 = k then v else f i | none => f i, ?_, fun i x e => ?_, fun i x e => ?_, fun i d' e => ?_⟩
    · rw [List.map_map, List.map_map]
      have h1 : ds.map ((·.1) ∘ fun p => if p.1 = k then (p.1, d) else p) = ds.map (·.1) := List.map_congr_left fun q _ => by by_cases e : q.1 = k <;> simp [e]
      have h2 : xs.map ((·.1) ∘ putAt k vv) = xs.map (·.1) := List.map_congr_left fun q _ => by by_cases e : q.1 = k <;> simp [putAt, e]
      rw [h1, h2, keys]
    · rw [List.getElem?_map] at e
      obtain ⟨x', ex, rfl⟩ := Option.map_eq_some_iff.mp e
      simp only [ex]
      by_cases q : x'.1 = k
      · simp only [putAt, if_pos q]; exact rv
      · simp only [putAt, if_neg q]; exact vals i x' ex
    · rw [List.getElem?_map] at e
      obtain ⟨x', ex, rfl⟩ := Option.map_eq_some_iff.mp e
      by_cases q : x'.1 = k
      · simp only [putAt, if_pos q]; exact ks i x' ex
      · simp only [putAt, if_neg q]; exact ks i x' ex
    · rw [List.getElem?_map] at e
      obtain ⟨d'', ed, rfl⟩ := Option.map_eq_some_iff.mp e
      obtain ⟨x', ex⟩ := at2 hl ed
      have ek : d''.1 = x'.1 := by
        have := congrArg (fun l => l[i]?) keys
        simp [List.getElem?_map, ed, ex] at this
        exact this
      simp only [ex]
      by_cases q : d''.1 = k
      · rw [if_pos q, if_pos (ek ▸ q)]; exact rd
      · rw [if_neg q, if_neg (ek ▸ q)]; exact rel i d'' ed
  | false =>
    have e1 : aPut ds k d = ds ++ [(k, d)] := by unfold aPut; rw [hs, c]; rfl
    have e2 : storedH xs k p vv = xs ++ [(k, p, vv)] := by unfold storedH; rw [c]; rfl
    rw [e1, e2]
    refine ⟨fun i => if i < xs.length then f i else v, by simp [keys], fun i x e => ?_, fun i x e => ?_, fun i d' e => ?_⟩
    · by_cases hi : i < xs.length
      · rw [List.getElem?_append_left hi] at e
        simp only [if_pos hi]; exact vals i x e
      · rw [List.getElem?_append_right (Nat.le_of_not_lt hi)] at e
        have hz : i - xs.length = 0 := by have := (List.getElem?_eq_some_iff.mp e).1; simp at this; omega
        rw [hz] at e; cases e
        simp only [if_neg hi]; exact rv
    · by_cases hi : i < xs.length
      · rw [List.getElem?_append_left hi] at e
        exact ks i x e
      · rw [List.getElem?_append_right (Nat.le_of_not_lt hi)] at e
        have hz : i - xs.length = 0 := by have := (List.getElem?_eq_some_iff.mp e).1; simp at this; omega
        rw [hz] at e; cases e
        exact rk
    · by_cases hi : i < ds.length
      · rw [List.getElem?_append_left hi] at e
        simp only [if_pos (hl ▸ hi)]; exact rel i d' e
      · rw [List.getElem?_append_right (Nat.le_of_not_lt hi)] at e
        have hz : i - ds.length = 0 := by have := (List.getElem?_eq_some_iff.mp e).1; simp at this; omega
        rw [hz] at e; cases e
        simp only [if_neg (hl ▸ hi)]; exact rd
theorem storedH_len {xs : List (NestedKey × Addr × Value)} {k : NestedKey} {p : Addr} {vv : Value} : (storedH xs k p vv).length ≤ xs.length + 1 := by
  unfold storedH
  split <;> simp
theorem storedH_depth {xs : List (NestedKey × Addr × Value)} {k : NestedKey} {p : Addr} {vv : Value} (hx : ∀ x ∈ xs, x.1.depth ≤ 8) (hk : k.depth ≤ 8) : ∀ x ∈ storedH xs k p vv, x.1.depth ≤ 8 := by
  intro x m
  unfold storedH at m
  split at m
  · obtain ⟨y, hy, rfl⟩ := List.mem_map.mp m
    by_cases e : y.1 = k
    · simp only [putAt, if_pos e]; exact hx y hy
    · simp only [putAt, if_neg e]; exact hx y hy
  · rcases List.mem_append.mp m with m | m
    · exact hx x m
    · simp at m; subst m; exact hk
theorem dn_ok {b : Bg} {H' : Hp} {h' : Heap} {a : Addr} {xs : List (NestedKey × Addr × Value)} (dd : h'.DictOfH (nestedKind b.P b.wd) a xs) (hz : xs.length ≤ sizeLine) (hs : (a == sysModules) = false) (hd : ∀ x ∈ xs, x.1.depth ≤ 8) : ObjOk b.P b.wd H' h' a (dnO b a xs) := by
  obtain ⟨o, es, ep, h1, h2, h3, h4, _, h5⟩ := dd
  refine ⟨⟨o, es, ep, h1, h2, h3, h4, h5, hz, hs, hd⟩, ⟨o, h1⟩, fun h1 h2 ⟨o, es, ep, q1, q2⟩ hk => ⟨o, es, ep, hk o q1, q2⟩⟩
theorem DnAt.depth {a : Addr} {ds : List (NestedKey × D)} {xs : List (NestedKey × Addr × Value)} {f : Nat → V} (I : Inv X pins σ H s) (d : DnAt (bgX X) w H a ds xs f) : ∀ x ∈ xs, x.1.depth ≤ 8 := by
  obtain ⟨⟨o, es, ep, h1, h2, h3, h4, h5, h6, h7, h8⟩, _⟩ := I.hok a _ d.at_
  exact h8

/-! ### o[i] = v -/
def setR (o i v : D) (M : Store) (Q : Store → Prop) : Prop :=
  match o with
  | .ref n => match M[n]? with
    | some (.lst ds) => (match (intOf i).bind (ixN ds.length) with | some j => Q (M.set n (.lst (ds.set j v))) | none => False)
    | some (.dk kvs) => (match dkey i with | some k => kvs.length < sizeLine ∧ Q (M.set n (.dk (aPut kvs k v))) | none => False)
    | some (.dn kvs) => (match tkey i with | some k => k.depth ≤ 8 ∧ kvs.length < sizeLine ∧ Q (M.set n (.dn (aPut kvs k v))) | none => False)
    | _ => False
  | _ => False
def rSX (b : Bg) (dst : D → D → D → Store → (Store → Prop) → Prop) : TSet := fun o i v H Q => ∃ (w : Wd) (M : Store) (do_ di dv : D) (Q' : Store → Prop), RM b w M H ∧ Rel b w do_ o ∧ Rel b w di i ∧ Rel b w dv v ∧ dst do_ di dv M Q' ∧
  ∀ M', Q' M' → ∀ (w' : Wd) (H' : Hp), w.Le w' → RM b w' M' H' → Q H'
/-- a dict of the store is written: the key found by dkey or tkey -/
theorem set_all (hu : X.A.units + 64 < cLine) : PSet X (rSX (bgX X) setR) := by
  intro pins s σ H o i v ov iv u Q I ro ri rv ⟨w, M, do_, di, dv, Q', R, r1, r2, r3, q, k⟩
  unfold setR at q
  split at q
  · rename_i n
    cases r1 with
    | @ref _ a ea =>
    cases ro
    split at q
    · rename_i ds hM
      split at q
      · rename_i j ej
        obtain ⟨ii, e1, e2⟩ := Option.bind_eq_some_iff.mp ej
        rw [intOf_eq e1] at r2
        cases r2
        obtain ⟨_, uo, eu, c⟩ := R.cell _ _ _ ea hM
        cases c with
        | lst rl =>
          refine set_list pins s σ H (.ref a) _ v (.ref a) iv u Q I (show RelV (.ref a) (.ref a) from rfl) ri rv ⟨a, _, ii, j, rfl, rfl, eu, by rw [← rl.1]; exact e2, ?_⟩
          exact k _ q w _ (Wd.Le.refl w) (R.write ea (.lst (rl.set j r3)))
      · exact q.elim
    · rename_i kvs hM
      split at q
      · rename_i kk ek
        obtain ⟨_, uo, eu, c⟩ := R.cell _ _ _ ea hM
        cases c with
        | dk hk hq =>
          have ev := dkey_v ek r2
          subst ev
          refine d_setItem (H' := _) (by omega) I (DPut.k (k := kk) (v := v) eu (by rw [← len_of_map hk]; exact q.1)) ri rv fun s' I' => ⟨_, I', ?_⟩
          refine k _ q.2 w _ (Wd.Le.refl w) (R.write ea ?_)
          obtain ⟨p1, p2⟩ := aPut_rel (R := Rel (bgX X) w) hk hq kk r3
          rw [putK_eq]
          exact .dk p1 p2
      · exact q.elim
    · rename_i kvs hM
      split at q
      · rename_i kk ek
        obtain ⟨a', xs, f, ea', ea2, d⟩ := DnAt.cell R (.ref ea) hM
        cases ea'
        obtain ⟨ey, p, ep⟩ := tkey_v ek r2
        subst ep
        cases ri
        obtain ⟨dd, hz, hs⟩ := d.dict I R
        have hl := len_of_map d.keys
        refine wpAny_setItem_heap (hsz := hz) (room8 hu) (vIs I R ey r2 q.1) dd fun h' dd' sb => ?_
        obtain ⟨f', p1, p2, p3, p4⟩ := dn_put d.keys d.vals d.ks d.rel (by rw [← ey]; exact r2) rv r3
        refine ⟨_, d_write I (by rw [d.at_]; trivial) sb (let ⟨o, _, _, ho, _⟩ := dd'; ⟨o, ho⟩) (dn_ok (b := bgX X) dd' (by have := storedH_len (xs := xs) (k := kk) (p := p) (vv := u); have := q.2.1; omega) hs (storedH_depth (d.depth I) q.1)), ?_⟩
        exact k _ q.2.2 w _ (Wd.Le.refl w) (R.write ea (.dn p1 p2 p3 p4))
      · exact q.elim
    · exact q.elim
  · exact q.elim
variable {o i e : Expr} {es : List Expr} {to ti te : DTE} {tr : DTA} {pos tpos apos cpos : Pos}
def dgSub (to ti : DTE) : DTG := fun v ρ M Q => to ρ M fun o M1 => ti ρ M1 fun i M2 => setR o i v M2 fun M3 => Q ρ M3
theorem dg_sub (hu : X.A.units + 64 < cLine) (ho : DE X o to) (hi : DE X i ti)
    (ha : ∀ v, assign (.Subscript o i pos) X.env v = (do
      let ov ← holding [v] (eval o X.env)
      let iv ← holding [v, ov] (eval i X.env)
      standAt pos
      holding [v, ov, iv] (setItem ov iv v)
      release [v, ov, iv] []) := by intro _; rfl) : DG X (.Subscript o i pos) (dgSub to ti) := by
  refine pgM (pg_sub ho hi (set_all hu) ha) fun v σ H Q ⟨w, ρ, M, d, Q', R, r, h, k⟩ => ?_
  refine ⟨w, ρ, M, _, R, h, fun x M1 h1 w1 v1 H1 l1 R1 r1 => ?_⟩
  refine ⟨w1, ρ, M1, _, R1, h1, fun y M2 h2 w2 v2 H2 l2 R2 r2 => ?_⟩
  exact ⟨w2, M2, x, y, d, _, R2.m, r1.mono l2, r2, r.mono (l1.trans l2), h2, fun M3 q w3 H3 l3 R3 => k ρ M3 q w3 σ H3 ((l1.trans l2).trans l3) ⟨R3, R2.e.mono l3⟩⟩

/-! ### methods of built-in types -/
abbrev DRM := D → List D → Store → DK → Prop
def rMX (b : Bg) (dr : DRM) : V → List V → Hp → VK → Prop := fun v vs H Q => ∃ (w : Wd) (M : Store) (x : D) (xs : List D) (Q' : DK), RM b w M H ∧ Rel b w x v ∧ RelL b w xs vs ∧ dr x xs M Q' ∧
  ∀ d M', Q' d M' → ∀ (w' : Wd) (z : V) (H' : Hp), w.Le w' → RM b w' M' H' → Rel b w' d z → Q z H'
abbrev MtX (X : Cx) (id : String) (dr : DRM) : Prop := MtR X id (rMX (bgX X) dr)
theorem MtX.of {id : String} {r : V → List V → Hp → VK → Prop} {dr : DRM} (h : MtR X id r) (hd : ∀ (w : Wd) (M : Store) (H : Hp) (x : D) (xs : List D) (v : V) (vs : List V) (Q' : DK) (Q : VK), RM (bgX X) w M H → Rel (bgX X) w x v → RelL (bgX X) w xs vs → dr x xs M Q' →
    (∀ d M', Q' d M' → ∀ (w' : Wd) (z : V) (H' : Hp), w.Le w' → RM (bgX X) w' M' H' → Rel (bgX X) w' d z → Q z H') → r v vs H Q) : MtX X id dr := fun pins s σ H x xs v us Q I rx rs ⟨w, M, dx, dxs, Q', R, r1, r2, q, k⟩ =>
  h pins s σ H x xs v us Q I rx rs (hd w M H dx dxs x xs Q' Q R r1 r2 q k)
/-- which built-in type a value has, as far as methods are called -/
def tyM (M : Store) : D → Option String
  | .str _ => some "str"
  | .lst _ => some "list"
  | .dk _ => some "dict"
  | .dn _ => some "dict"
  | .ref n => match M[n]? with | some (.lst _) => some "list" | some (.dk _) => some "dict" | some (.dn _) => some "dict" | _ => none
  | _ => none
theorem tyM_is {x : D} {v : V} {vv : Value} {T : String} (I : Inv X pins σ H s) (R : RM (bgX X) w M H) (r : Rel (bgX X) w x v) (rv : RelV v vv) (e : tyM M x = some T) : s.TypeIs vv T ∧ ∀ a, vv = .ref a → ∃ ob, s.heap.get? a = some ob ∧ ob.dict = none := by
  have dnI : ∀ {a : Addr} {xs : List (NestedKey × Addr × Value)}, H a = some (dnO (bgX X) a xs) → s.TypeIs (.ref a) "dict" ∧ ∀ b, Value.ref a = .ref b → ∃ ob, s.heap.get? b = some ob ∧ ob.dict = none := fun {a xs} h => by
    obtain ⟨⟨o, es, ep, h1, h2, _⟩, _⟩ := I.hok a _ h
    exact ⟨⟨o, h1, h2.1⟩, fun b e => by cases e; exact ⟨o, h1, h2.2.1⟩⟩
  cases r with
  | str z => cases e; exact tyV_is I rv rfl
  | lst s1 l q => cases e; exact tyV_is I rv (.inl ⟨rfl, _, sqL_mono R.sub s1⟩)
  | @dk a kvs ds s1 l q =>
    cases e
    cases rv
    have rd := rd_mono R.sub s1
    obtain ⟨z, hd, vs, rel, dd⟩ := dk_rd I.hok rd
    refine ⟨dd.typeIs, fun b e => ?_⟩
    cases e
    obtain ⟨ob, _, _, h1, h2, _⟩ := dd
    exact ⟨ob, h1, h2.2.1⟩
  | dn s1 l q1 q2 q3 => cases e; cases rv; exact dnI (R.sub _ _ s1)
  | ref ea =>
    simp only [tyM] at e
    split at e
    · rename_i hM
      cases e
      obtain ⟨_, uo, eu, c⟩ := R.cell _ _ _ ea hM
      cases c with
      | lst rl => exact tyV_is I rv (.inl ⟨rfl, _, .inl (.inl eu)⟩)
    · rename_i hM
      cases e
      obtain ⟨_, uo, eu, c⟩ := R.cell _ _ _ ea hM
      cases c with
      | dk _ _ => exact tyV_is I rv (.inr (.inr (.inl ⟨rfl, .inl ⟨_, eu⟩⟩)))
    · rename_i hM
      cases e
      obtain ⟨_, uo, eu, c⟩ := R.cell _ _ _ ea hM
      cases c with
      | dn _ _ _ _ => cases rv; exact dnI eu
    · cases e
  | _ => cases e
def dMeth (T : String) (dr : DRM) (to : DTE) (tr : DTA) : DTE := fun ρ M Q => to ρ M fun x M1 => tyM M1 x = some T ∧ tr ρ M1 fun xs M2 => dr x xs M2 Q
variable {name : Str} {T id : String} {dr : DRM}
theorem de_meth (pa : PlainAttrs T) (slot : Slot T name id) (hty : typeOf (.builtin id) = pure (.type "method_descriptor")) (hm : MtX X id dr) (ho : DE X o to) (ha : DA X (e :: es) tr)
    (hbase : attributeBase o name X.env (eval o X.env) = eval o X.env := by rfl)
    (hfew : ((backTo cpos (starEach (e :: es) X.env)).all (fun x => !x.1) && (backToKw cpos (keywordEach [] X.env)).all (fun x => x.1.isSome)
      && decide ((e :: es).length + ([] : List Keyword).length + (if ([] : List Keyword).isEmpty then 0 else 1) < 30)) = true := by rfl)
    (hline : (apos.endLine == cpos.line) = true := by rfl) (hs : starEach (e :: es) X.env = (false, eval e X.env) :: starEach es X.env := by rfl) (hplain : (backTo cpos (starEach es X.env)).any (·.1) = false := by rfl) :
    DE X (.Call (.Attribute o name apos) (e :: es) [] cpos) (dMeth T dr to tr) := by
  refine ⟨fun pins s σ H Q I ⟨w, ρ, M, Q', R, h, k⟩ => ?_⟩
  refine wpAny_Call_method_late hbase hfew hline rfl (thn (ho.run pins s σ H _ I ⟨w, ρ, M, _, R, h, fun x M1 h1 w1 v1 H1 l1 R1 r1 => (show (fun v H => ∃ w1 M1 x, w.Le w1 ∧ RS (bgX X) w1 ρ M1 σ H ∧ Rel (bgX X) w1 x v ∧ tyM M1 x = some T ∧ tr ρ M1 fun xs M2 => dr x xs M2 Q') v1 H1 from ⟨w1, M1, x, l1, R1, r1, h1.1, h1.2⟩)⟩) fun v s1 ⟨x, H1, I1, rx, w1, M1, dx, l1, R1, r1, ty, q1⟩ => ?_)
  obtain ⟨h1, h2⟩ := tyM_is I1 R1.m r1 rx ty
  refine ⟨T, id, pa, slot, hty, h1, h2, ?_⟩
  have hA := ha.run cpos pins s1 σ H1 (fun vs H2 => ∃ w2 M2 xs, w1.Le w2 ∧ RS (bgX X) w2 ρ M2 σ H2 ∧ RelL (bgX X) w2 xs vs ∧ dr dx xs M2 Q') I1 ⟨w1, ρ, M1, _, R1, q1, fun xs M2 h2 w2 vs H2 l2 R2 r2 => ⟨w2, M2, xs, l2, R2, r2, h2⟩⟩
  rw [hs] at hA ⊢
  refine Calls.callWith_builtin (by show (false || (backTo cpos (starEach es X.env)).any (·.1)) = false; rw [hplain] <;> rfl) (Calls.evalArgs_plain ?_)
  refine thn hA fun us s2 ⟨vs, H2, I2, r2, w2, M2, xs, l2, R2, rl, q2⟩ => ?_
  exact hm pins s2 σ H2 x vs v us Q I2 rx r2 ⟨w2, M2, dx, xs, Q', R2.m, r1.mono l2, rl, q2, fun d M' q w' z H' l R' rz => k d M' q w' z H' ((l1.trans l2).trans l) ⟨R', R2.e.mono l⟩ rz⟩
theorem de_meth0 (pa : PlainAttrs T) (slot : Slot T name id) (hty : typeOf (.builtin id) = pure (.type "method_descriptor")) (hm : MtX X id dr) (ho : DE X o to)
    (hbase : attributeBase o name X.env (eval o X.env) = eval o X.env := by rfl) (hline : (apos.endLine == cpos.line) = true := by rfl) : DE X (.Call (.Attribute o name apos) [] [] cpos) (dMeth T dr to dNil) := by
  refine ⟨fun pins s σ H Q I ⟨w, ρ, M, Q', R, h, k⟩ => ?_⟩
  refine wpAny_Call_method0_late hbase hline (thn (ho.run pins s σ H _ I ⟨w, ρ, M, _, R, h, fun x M1 h1 w1 v1 H1 l1 R1 r1 => (show (fun v H => ∃ w1 M1 x, w.Le w1 ∧ RS (bgX X) w1 ρ M1 σ H ∧ Rel (bgX X) w1 x v ∧ tyM M1 x = some T ∧ dr x [] M1 Q') v1 H1 from ⟨w1, M1, x, l1, R1, r1, h1.1, h1.2⟩)⟩) fun v s1 ⟨x, H1, I1, rx, w1, M1, dx, l1, R1, r1, ty, q1⟩ => ?_)
  obtain ⟨h1, h2⟩ := tyM_is I1 R1.m r1 rx ty
  exact ⟨T, id, pa, slot, hty, h1, h2, Calls.callWith_builtin rfl (PySem.evalArgs_none (hm pins s1 σ H1 x [] v [] Q I1 rx .nil ⟨w1, M1, dx, [], Q', R1.m, r1, .nil, q1, fun d M' q w' z H' l R' rz => k d M' q w' z H' (l1.trans l) ⟨R', R1.e.mono l⟩ rz⟩))⟩

/-! the methods -/
def appendR : DRM := fun x xs M Q => match x, xs with
  | .ref n, [y] => (match M[n]? with | some (.lst ds) => ds.length < sizeLine ∧ Q .non (M.set n (.lst (ds ++ [y]))) | _ => False)
  | _, _ => False
theorem mx_append : MtX X "list.append" appendR := .of mt_append fun w M H x xs v vs Q' Q R r1 r2 q k => by
  unfold appendR at q
  split at q
  · rename_i n y
    obtain ⟨u, rfl, ry⟩ := r2.one
    cases r1 with
    | ref ea =>
    split at q
    · rename_i ds hM
      obtain ⟨_, uo, eu, c⟩ := R.cell _ _ _ ea hM
      cases c with
      | lst rl =>
        exact ⟨_, _, u, rfl, rfl, eu, by rw [← rl.1]; exact q.1, k _ _ q.2 w _ _ (Wd.Le.refl w) (R.write ea (.lst (rl.append (.cons ry .nil)))) .non⟩
    · exact q.elim
  · exact q.elim
def popAtR : DRM := fun x xs M Q => match x, xs with
  | .ref n, [.int i] => (match M[n]? with | some (.lst ds) => 0 ≤ i ∧ i < ds.length ∧ ds.length ≤ sizeLine ∧ (match ds[i.toNat]? with | some y => Q y (M.set n (.lst (ds.eraseIdx i.toNat))) | none => False) | _ => False)
  | _, _ => False
theorem RelL.erase {b : Bg} {w : Wd} {ds : List D} {vs : List V} (n : Nat) (r : RelL b w ds vs) : RelL b w (ds.eraseIdx n) (vs.eraseIdx n) := by
  refine ⟨by simp [List.length_eraseIdx, r.1], fun i d v e1 e2 => ?_⟩
  rw [List.getElem?_eraseIdx] at e1 e2
  split at e1
  · rename_i h
    rw [if_pos h] at e2
    exact r.2 i d v e1 e2
  · rename_i h
    rw [if_neg h] at e2
    exact r.2 _ d v e1 e2
theorem mx_popAt : MtX X "list.pop" popAtR := .of mt_popAt fun w M H x xs v vs Q' Q R r1 r2 q k => by
  unfold popAtR at q
  split at q
  · rename_i n i
    obtain ⟨u, rfl, ry⟩ := r2.one
    cases ry
    cases r1 with
    | ref ea =>
    split at q
    · rename_i ds hM
      obtain ⟨_, uo, eu, c⟩ := R.cell _ _ _ ea hM
      cases c with
      | lst rl =>
        obtain ⟨h0, h1, h2, q⟩ := q
        split at q
        · rename_i y ey
          obtain ⟨v', ev, ry⟩ := rl.get ey
          have hs := sizeLine_eq
          refine ⟨_, _, i, i.toNat, v', rfl, rfl, eu, by omega, by omega, by rw [← rl.1]; exact seqIndex_of h0 h1, ev, k _ _ q w _ _ (Wd.Le.refl w) (R.write ea (.lst (rl.erase _))) ry⟩
        · exact q.elim
    · exact q.elim
  · exact q.elim
def getOr : DRM := fun x xs M Q => match xs with
  | [y] => (match dGet M x y with | some o => Q (o.getD .non) M | none => False)
  | [y, z] => (match dGet M x y with | some o => Q (o.getD z) M | none => False)
  | _ => False
theorem mx_get (hu : X.A.units + 64 < cLine) : MtX X "dict.get" getOr := by
  intro pins s σ H x xs v us Q I rx rs ⟨w, M, dx, dxs, Q', R, r1, r2, q, k⟩
  unfold getOr at q
  split at q
  · rename_i y
    obtain ⟨yv, rfl, ry⟩ := r2.one
    obtain ⟨u, rfl, ru⟩ := rs.one
    split at q
    · rename_i o e
      obtain ⟨a, rfl, g⟩ := dic_at R r1 ry e
      cases rx
      cases g with
      | dk g hg =>
        refine d_get1 (by omega) I g ru fun w' s' I' rw' => ⟨_, H, I', rw', ?_⟩
        rcases hg with ⟨e1, e2⟩ | ⟨d, v', e1, e2, rd⟩
        · rw [e1] at q; rw [e2]; exact k _ M q w _ H (Wd.Le.refl w) R .non
        · rw [e1] at q; rw [e2]; exact k _ M q w _ H (Wd.Le.refl w) R rd
      | @dn ds xs' f kk p g ey ep hd =>
        subst ep
        cases ru
        obtain ⟨dd, hz, hs⟩ := g.dict I R
        refine call_meetsIn PySem.F.slot_dict_get dd.typeIs PySem.F.entry_dict_get (PySem.F.args_dict_get_2 _ _) (meetsH_dict_get (nestedKind X.prog X.w) a p hs) ⟨room8 hu, kk, xs', vIs I R ey ry hd, dd, ?_⟩
        rcases DnAt.find (R := Rel (bgX X) w) g.keys g.vals g.rel kk with ⟨e1, e2⟩ | ⟨d', v', p', e1, e2, rv', rd⟩
        · rw [e1] at q; rw [e2]; exact ⟨.non, H, I.tok _, rfl, k _ M q w _ H (Wd.Le.refl w) R .non⟩
        · rw [e1] at q; rw [e2]; exact ⟨v', H, I.tok _, rv', k _ M q w _ H (Wd.Le.refl w) R rd⟩
    · exact q.elim
  · rename_i y z
    obtain ⟨yv, zv, rfl, ry, rz⟩ := r2.two
    obtain ⟨u, u2, rfl, ru, ru2⟩ := rs.two
    split at q
    · rename_i o e
      obtain ⟨a, rfl, g⟩ := dic_at R r1 ry e
      cases rx
      cases g with
      | dk g hg =>
        refine d_get2 (by omega) I g ru ru2 fun w' s' I' rw' => ⟨_, H, I', rw', ?_⟩
        rcases hg with ⟨e1, e2⟩ | ⟨d, v', e1, e2, rd⟩
        · rw [e1] at q; rw [e2]; exact k _ M q w _ H (Wd.Le.refl w) R rz
        · rw [e1] at q; rw [e2]; exact k _ M q w _ H (Wd.Le.refl w) R rd
      | @dn ds xs' f kk p g ey ep hd =>
        subst ep
        cases ru
        obtain ⟨dd, hz, hs⟩ := g.dict I R
        refine call_meetsIn PySem.F.slot_dict_get dd.typeIs PySem.F.entry_dict_get (PySem.F.args_dict_get_3 _ _ _) (meetsH_dict_get_default (nestedKind X.prog X.w) a p hs u2) ⟨room8 hu, kk, xs', vIs I R ey ry hd, dd, ?_⟩
        rcases DnAt.find (R := Rel (bgX X) w) g.keys g.vals g.rel kk with ⟨e1, e2⟩ | ⟨d', v', p', e1, e2, rv', rd⟩
        · rw [e1] at q; rw [e2]; exact ⟨zv, H, I.tok _, ru2, k _ M q w _ H (Wd.Le.refl w) R rz⟩
        · rw [e1] at q; rw [e2]; exact ⟨v', H, I.tok _, rv', k _ M q w _ H (Wd.Le.refl w) R rd⟩
    · exact q.elim
  · exact q.elim
/-- the texts among data -/
def strsOf : List D → Option (List Str)
  | [] => some []
  | .str x :: r => (strsOf r).map (x :: ·)
  | _ :: _ => none
theorem strsOf_map (xs : List Str) : strsOf (xs.map D.str) = some xs := by
  induction xs with
  | nil => rfl
  | cons x r ih => simp [strsOf, ih]
theorem strsOf_eq : ∀ {ds : List D} {xs : List Str}, strsOf ds = some xs → ds = xs.map D.str
  | [], _, h => by cases h; rfl
  | .str x :: r, xs, h => by
    simp only [strsOf, Option.map_eq_some_iff] at h
    obtain ⟨ys, e, rfl⟩ := h
    simp [strsOf_eq e]
  | .non :: _, _, h => by cases h
  | .bl _ :: _, _, h => by cases h
  | .int _ :: _, _, h => by cases h
  | .tup _ :: _, _, h => by cases h
  | .lst _ :: _, _, h => by cases h
  | .dk _ :: _, _, h => by cases h
  | .dn _ :: _, _, h => by cases h
  | .ref _ :: _, _, h => by cases h
  | .ty _ :: _, _, h => by cases h
theorem rel_strs {b : Bg} {w : Wd} : ∀ {xs : List Str} {vs : List V}, RelL b w (xs.map D.str) vs → vs = xs.map V.str
  | [], vs, r => List.length_eq_zero_iff.mp r.1.symm
  | x :: xs, [], r => by cases r.1
  | x :: xs, v :: vs, r => by
    have h : Rel b w (.str x) v := r.2 0 _ v rfl rfl
    cases h
    rw [rel_strs (xs := xs) (vs := vs) ⟨Nat.succ.inj r.1, fun i a b e1 e2 => r.2 (i + 1) a b e1 e2⟩]
    rfl
theorem strs_rel {b : Bg} {w : Wd} (xs : List Str) : RelL b w (xs.map D.str) (xs.map V.str) := by
  induction xs with
  | nil => exact .nil
  | cons x r ih => exact .cons (.str x) ih
def joinR : DRM := fun x xs M Q => match x, xs with
  | .str a, [y] => (match (viewS M y).bind strsOf with | some ys => (ys.map (·.length)).sum + ys.length * a.length ≤ 16777216 ∧ Q (.str (Txt.join a ys)) M | none => False)
  | _, _ => False
theorem mx_join : MtX X "str.join" joinR := .of mt_join fun w M H x xs v vs Q' Q R r1 r2 q k => by
  unfold joinR at q
  split at q
  · rename_i a y
    obtain ⟨u, rfl, ry⟩ := r2.one
    cases r1
    split at q
    · rename_i ys e
      obtain ⟨ds, e1, e2⟩ := Option.bind_eq_some_iff.mp e
      obtain ⟨p, us, rfl, sq, rl⟩ := viewS_at R ry e1
      rw [strsOf_eq e2] at rl
      have := rel_strs rl
      subst this
      exact ⟨a, p, ys, rfl, rfl, sq, q.1, k _ M q.2 w _ H (Wd.Le.refl w) R (.str _)⟩
    · exact q.elim
  · exact q.elim
/-! ### {} -/
def dNewK : DTE := fun _ M Q => Q (.ref M.length) (M ++ [.dk []])
theorem de_newK : DE X (.Dict [] [] pos) dNewK := peM pe_dnewK fun σ H Q ⟨w, ρ, M, Q', R, h, k⟩ p hp =>
  k _ _ h (w.put p) _ _ Wd.put_le (R.put hp (.dk (kvs := []) rfl fun i d v e => by simp at e)) (putR R.m)
def dNewN : DTE := fun _ M Q => Q (.ref M.length) (M ++ [.dn []])
theorem de_newN : DE X (.Dict [] [] pos) dNewN := by
  refine ⟨fun pins s σ H Q I ⟨w, ρ, M, Q', R, h, k⟩ => ?_⟩
  have hf : H s.heap.objs.size = none := I.hok.fresh (Nat.le_refl _)
  refine wpAny_Dict_empty ?_
  refine ⟨.ref s.heap.objs.size, upd H s.heap.objs.size (dnO (bgX X) s.heap.objs.size []), I.laid (t' := s.toks) (fun b u e => Heap.get?_push_of_some _ e) (Nat.le_refl _) ?_, rfl, ?_⟩
  · refine dn_ok (b := bgX X) (Heap.DictOfH.new s.heap) (Nat.zero_le _) ?_ (fun x h => by simp at h)
    exact beq_eq_false_iff_ne.mpr (Nat.ne_of_gt I.big)
  · exact k _ _ h (w.put s.heap.objs.size) _ _ Wd.put_le (R.put hf (.dn (f := fun _ => .non) rfl (fun i x e => by simp at e) (fun i x e => by simp at e) fun i d e => by simp at e)) (putR R.m)
end
end DL

set_option Elab.async false
set_option linter.all false
set_option maxRecDepth 100000
set_option maxHeartbeats 2000000
/-! DLLoops: what a for walks, for loops, comprehensions over data. -/
namespace DL
open PySem L2
open PyProof.Rows hiding St

/-! ### sources -/
abbrev DTI := Env' → Store → (List D → (Store → Prop) → Store → Prop) → Prop
/-- an iterator hands out the items, as long as the store keeps what is walked -/
def JOk (b : Bg) (w : Wd) (J : It) (items : List D) (keep : Store → Prop) : Prop :=
  ∀ (w' : Wd) (M' : Store) (H' : Hp), w.Le0 w' → RM b w' M' H' → keep M' →
    (∀ (i : Nat) (d : D), items[i]? = some d → J.go i H' ∧ ∀ x H'', J.yld i H' x H'' → ∃ w'', w'.Le w'' ∧ RM b w'' M' H'' ∧ Rel b w'' d x) ∧ J.stop items.length H'
theorem JOk.mono {b : Bg} {w w1 : Wd} {J : It} {items : List D} {keep : Store → Prop} (h : JOk b w J items keep) (l : w.Le0 w1) : JOk b w1 J items keep := fun w' M' H' l' => h w' M' H' (l.trans l')
def upI (b : Bg) (t : DTI) : TI := fun σ H R => ∃ (w : Wd) (ρ : Env') (M : Store) (R' : List D → (Store → Prop) → Store → Prop), RS b w ρ M σ H ∧ t ρ M R' ∧
  ∀ items keep M', R' items keep M' → ∀ (w' : Wd) (J : It) (H' : Hp), w.Le w' → RS b w' ρ M' σ H' → JOk b w' J items keep → R J H'
abbrev DI (X : Cx) (tg iter : Expr) (t : DTI) : Prop := PI X tg iter (upI (bgX X) t)
section
variable {X : Cx} {tg e e2 : Expr} {te : DTE} {ta : DTA} {pos p tpos : Pos}
theorem piM {iter : Expr} {t t' : TI} (h : PI X tg iter t) (m : ∀ σ H R, t' σ H R → t σ H R) : PI X tg iter t' := ⟨fun pins s σ H R I q => h.run pins s σ H R I (m σ H R q)⟩
/-- for x in a list, a tuple, a text -/
def dIter (te : DTE) : DTI := fun ρ M R => te ρ M fun x M1 => match x with
  | .str z => R ((signs z).map D.str) (fun _ => True) M1
  | .tup ds => R ds (fun _ => True) M1
  | x => match viewL M1 x with | some ds => R ds (fun M => viewL M x = some ds) M1 | none => False
theorem jok_list {b : Bg} {w : Wd} {M : Store} {H : Hp} {x : D} {a : Addr} {ds : List D} (r : Rel b w x (.ref a)) : JOk b w (Itl b.K a) ds (fun M => viewL M x = some ds) := by
  intro w' M' H' l R kp
  obtain ⟨a', vs, ea, sq, rl⟩ := viewL_at R (r.mono0 l) kp
  cases ea
  refine ⟨fun i d e => ?_, ⟨vs, sq, Nat.le_of_eq rl.1.symm⟩⟩
  obtain ⟨v, ev, rv⟩ := rl.get e
  refine ⟨⟨vs, v, sq, ev⟩, fun x H'' ⟨eH, hx⟩ => ?_⟩
  subst eH
  have := hx vs sq
  rw [ev] at this
  cases this
  exact ⟨w', Wd.Le.refl w', R, rv⟩
theorem jok_tup {b : Bg} {w : Wd} {a : Addr} {ds : List D} (r : Rel b w (.tup ds) (.ref a)) : JOk b w (Itt b.K a) ds (fun _ => True) := by
  intro w' M' H' l R _
  cases r.mono0 l with
  | tup s ll q =>
    have sq := sqT_mono R.sub s
    have rl : RelL b w' ds _ := ⟨ll, q⟩
    refine ⟨fun i d e => ?_, ⟨_, sq, Nat.le_of_eq ll.symm⟩⟩
    obtain ⟨v, ev, rv⟩ := rl.get e
    refine ⟨⟨_, v, sq, ev⟩, fun x H'' ⟨eH, hx⟩ => ?_⟩
    subst eH
    have := hx _ sq
    rw [ev] at this
    cases this
    exact ⟨w', Wd.Le.refl w', R, rv⟩
theorem jok_str {b : Bg} {w : Wd} {z : Str} : JOk b w (Its z) ((signs z).map D.str) (fun _ => True) := by
  intro w' M' H' l R _
  refine ⟨fun i d e => ?_, ?_⟩
  · rw [signs, List.map_map, List.getElem?_map] at e
    obtain ⟨c, ec, rfl⟩ := Option.map_eq_some_iff.mp e
    have ec' : z.cps[i]? = some c := by simpa using ec
    refine ⟨(Array.getElem?_eq_some_iff.mp ec').1, fun x H'' ⟨eH, c', hc, hx⟩ => ?_⟩
    subst eH; subst hx
    rw [ec'] at hc; cases hc
    exact ⟨w', Wd.Le.refl w', R, .str _⟩
  · show z.cps.size ≤ _
    simp [signs]
theorem di_any (he : DE X e te) : DI X tg e (dIter te) := by
  refine ⟨fun pins s σ H R I ⟨w, ρ, M, R', Rs, h, k⟩ => ?_⟩
  refine thn (he.run pins s σ H (fun v H1 => ∃ w1 M1 x, w.Le w1 ∧ RS (bgX X) w1 ρ M1 σ H1 ∧ Rel (bgX X) w1 x v ∧ (match x with
    | .str z => R' ((signs z).map D.str) (fun _ => True) M1
    | .tup ds => R' ds (fun _ => True) M1
    | x => match viewL M1 x with | some ds => R' ds (fun M => viewL M x = some ds) M1 | none => False)) I ⟨w, ρ, M, _, Rs, h, fun x M1 h1 w1 v1 H1 l1 R1 r1 => ⟨w1, M1, x, l1, R1, r1, h1⟩⟩) fun v s1 ⟨xv, H1, I1, rx, w1, M1, x, l1, R1, r1, q⟩ => ?_
  have ofL : ∀ ds, viewL M1 x = some ds → R' ds (fun M => viewL M x = some ds) M1 → wpAny (model X.prog X.w) X.A (pyIter v) (PIE X pins σ tg R) X.xe s1 := by
    intro ds ev q
    obtain ⟨a, vs, ea, sq, rl⟩ := viewL_at R1.m r1 ev
    subst ea
    cases rx
    obtain ⟨its, rv, pl, hz⟩ := I1.list sq
    refine wpAny_pyIter_list pl.isList ?_
    refine ⟨s1.heap.objs.size, [s1.heap.objs.size], _, _, H1, rfl, I1.kept (t' := s1.toks) fun b o e => Heap.get?_push_of_some _ e, turn_list a _, ⟨_, Heap.get?_push_size _ rfl, rfl, rfl⟩, fun b hb => ?_, k ds _ M1 q w1 _ H1 l1 R1 (jok_list (M := M1) (H := H1) r1)⟩
    have e : b = s1.heap.objs.size := by simpa using hb
    subst e
    exact I1.fpOk (Nat.le_refl _) (I1.hok.fresh (Nat.le_refl _))
  have elseL : (match viewL M1 x with | some ds => R' ds (fun M => viewL M x = some ds) M1 | none => False) → wpAny (model X.prog X.w) X.A (pyIter v) (PIE X pins σ tg R) X.xe s1 := by
    intro q
    split at q
    · rename_i ds ev
      exact ofL ds ev q
    · exact q.elim
  cases x with
  | str z =>
    cases r1
    obtain ⟨t, rfl⟩ := rx
    refine wpAny_pyIter_strU ?_
    refine ⟨s1.heap.objs.size, [s1.heap.objs.size], _, _, H1, rfl, I1.kept (t' := s1.toks) fun b o e => Heap.get?_push_of_some _ e, turn_str _ z t (strIterType z) (by unfold strIterType; split <;> simp), ⟨_, Heap.get?_push_size _ rfl, rfl, rfl⟩, fun b hb => ?_, k _ _ M1 q w1 _ H1 l1 R1 jok_str⟩
    have e : b = s1.heap.objs.size := by simpa using hb
    subst e
    exact I1.fpOk (Nat.le_refl _) (I1.hok.fresh (Nat.le_refl _))
  | tup ds =>
    have r1' := r1
    cases r1 with
    | tup sq l rr =>
      cases rx
      obtain ⟨its, rv, pl, hz⟩ := I1.tuple (sqT_mono R1.m.sub sq)
      refine wpAny_pyIter_tuple (show s1.heap.IsTuple _ its.toArray from pl) ?_
      refine ⟨s1.heap.objs.size, [s1.heap.objs.size], _, _, H1, rfl, I1.kept (t' := s1.toks) fun b o e => Heap.get?_push_of_some _ e, turn_tuple _ _, ⟨_, Heap.get?_push_size _ rfl, rfl, rfl⟩, fun b hb => ?_, k ds _ M1 q w1 _ H1 l1 R1 (jok_tup r1')⟩
      have e : b = s1.heap.objs.size := by simpa using hb
      subst e
      exact I1.fpOk (Nat.le_refl _) (I1.hok.fresh (Nat.le_refl _))
  | _ => exact elseL q
/-- range -/
def rangeD (lo : Int) (n : Nat) : List D := (List.range n).map fun i => .int (lo + (i : Nat))
theorem jok_range {b : Bg} {w : Wd} {lo : Int} {n : Nat} : JOk b w (Itr lo n) (rangeD lo n) (fun _ => True) := by
  intro w' M' H' l R _
  refine ⟨fun i d e => ?_, ?_⟩
  · rw [rangeD, List.getElem?_map] at e
    obtain ⟨c, ec, rfl⟩ := Option.map_eq_some_iff.mp e
    obtain ⟨hi, ec⟩ := List.getElem?_eq_some_iff.mp ec
    simp at ec hi
    subst ec
    refine ⟨hi, fun x H'' ⟨eH, hx⟩ => ?_⟩
    subst eH; subst hx
    exact ⟨w', Wd.Le.refl w', R, .int _⟩
  · show n ≤ _
    simp [rangeD]
def dRange1 (ta : DTA) : DTI := fun ρ M R => ta ρ M fun xs M1 => match xs with | [.int j] => j < 2 ^ 62 ∧ -(2 ^ 62) ≤ j ∧ R (rangeD 0 j.toNat) (fun _ => True) M1 | _ => False
def dRange2 (ta : DTA) : DTI := fun ρ M R => ta ρ M fun xs M1 => match xs with | [.int i, .int j] => (-(2 ^ 62) ≤ i ∧ i < 2 ^ 62 ∧ -(2 ^ 62) ≤ j ∧ j < 2 ^ 62) ∧ R (rangeD i (j - i).toNat) (fun _ => True) M1 | _ => False
theorem di_range1 (hg : Gl X "range") (hm : X.mg "range" = none) (ha : DA X [e] ta) (hs : starEach [e] X.env = [(false, eval e X.env)] := by rfl) : DI X tg (.Call (.Name "range" p) [e] [] pos) (dRange1 ta) := by
  refine piM (pi_range1 hg hm ha hs) fun σ H R ⟨w, ρ, M, R', Rs, h, k⟩ => ?_
  refine ⟨w, ρ, M, _, Rs, h, fun xs M1 h1 w1 vs H1 l1 R1 r1 => ?_⟩
  split at h1
  · obtain ⟨v, rfl, rv⟩ := r1.one
    cases rv
    exact ⟨_, rfl, h1.2.1, h1.1, k _ _ M1 h1.2.2 w1 _ H1 l1 R1 jok_range⟩
  · exact h1.elim
theorem di_range2 (hg : Gl X "range") (hm : X.mg "range" = none) (ha : DA X [e, e2] ta) (hs : starEach [e, e2] X.env = [(false, eval e X.env), (false, eval e2 X.env)] := by rfl) (hs2 : starEach [e2] X.env = [(false, eval e2 X.env)] := by rfl) :
    DI X tg (.Call (.Name "range" p) [e, e2] [] pos) (dRange2 ta) := by
  refine piM (pi_range2 hg hm ha hs hs2) fun σ H R ⟨w, ρ, M, R', Rs, h, k⟩ => ?_
  refine ⟨w, ρ, M, _, Rs, h, fun xs M1 h1 w1 vs H1 l1 R1 r1 => ?_⟩
  split at h1
  · obtain ⟨v, u, rfl, rv, ru⟩ := r1.two
    cases rv; cases ru
    exact ⟨_, _, rfl, h1.1, k _ _ M1 h1.2 w1 _ H1 l1 R1 jok_range⟩
  · exact h1.elim
/-- zip of two lists -/
def zipD (xs ys : List D) : List D := List.zipWith (fun x y => .tup [x, y]) xs ys
theorem pairT {b : Bg} {w : Wd} {M : Store} {H : Hp} {x y : D} {v u : V} {T : Addr} (R : RM b w M H) (hT : H T = none) (r1 : Rel b w x v) (r2 : Rel b w y u) :
    ∃ w'', w.Le w'' ∧ RM b w'' M (upd H T (.tup [v, u])) ∧ Rel b w'' (.tup [x, y]) (.ref T) :=
  ⟨w.froz T (.tup [v, u]), Wd.froz_le (R.nF hT), R.froz hT, frozT R (.cons r1 (.cons r2 .nil)) hT⟩
theorem jok_zip {b : Bg} {w : Wd} {x y : D} {a c : Addr} {ds es : List D} (r : Rel b w x (.ref a)) (r2 : Rel b w y (.ref c)) : JOk b w (Itz b.K a c) (zipD ds es) (fun M => viewL M x = some ds ∧ viewL M y = some es) := by
  intro w' M' H' l R ⟨k1, k2⟩
  obtain ⟨a', vs, ea, sq, rl⟩ := viewL_at R (r.mono0 l) k1
  cases ea
  obtain ⟨c', us, ec, sq2, rl2⟩ := viewL_at R (r2.mono0 l) k2
  cases ec
  refine ⟨fun i d e => ?_, ⟨vs, us, sq, sq2, ?_⟩⟩
  · rw [zipD, List.getElem?_zipWith] at e
    split at e
    · rename_i x1 y1 e1 e2
      cases e
      obtain ⟨v, ev, rv⟩ := rl.get e1
      obtain ⟨u, eu, ru⟩ := rl2.get e2
      refine ⟨⟨vs, us, v, u, sq, sq2, ev, eu⟩, fun z H'' ⟨T, x', y', ez, hT, eH, hx, hy⟩ => ?_⟩
      subst ez; subst eH
      have h1 := hx vs sq
      have h2 := hy us sq2
      rw [ev] at h1; rw [eu] at h2
      cases h1; cases h2
      exact pairT R hT rv ru
    · cases e
  · rw [zipD, List.length_zipWith, ← rl.1, ← rl2.1]
    omega
def dZip (ta : DTA) : DTI := fun ρ M R => ta ρ M fun xs M1 => match xs with
  | [x, y] => (match viewL M1 x, viewL M1 y with | some ds, some es => R (zipD ds es) (fun M => viewL M x = some ds ∧ viewL M y = some es) M1 | _, _ => False)
  | _ => False
theorem di_zip {elts : List Expr} {kk : Nat} (hg : Gl X "zip") (hm : X.mg "zip" = none) (ha : DA X [e, e2] ta)
    (hs : starEach [e, e2] X.env = (false, eval e X.env) :: starEach [e2] X.env := by rfl) (hpl : (backTo pos (starEach [e2] X.env)).any (·.1) = false := by rfl) :
    DI X (.Tuple elts kk tpos) (.Call (.Name "zip" p) [e, e2] [] pos) (dZip ta) := by
  refine piM (pi_zip hg hm ha hs hpl) fun σ H R ⟨w, ρ, M, R', Rs, h, k⟩ => ?_
  refine ⟨w, ρ, M, _, Rs, h, fun xs M1 h1 w1 vs H1 l1 R1 r1 => ?_⟩
  split at h1
  · obtain ⟨v, u, rfl, rv, ru⟩ := r1.two
    split at h1
    · rename_i ds es e1 e2
      obtain ⟨a, vs', rfl, sq, rl⟩ := viewL_at R1.m rv e1
      obtain ⟨c, us', rfl, sq2, rl2⟩ := viewL_at R1.m ru e2
      exact ⟨a, c, vs', us', rfl, sq, sq2, k _ _ M1 h1 w1 _ H1 l1 R1 (jok_zip rv ru)⟩
    · exact h1.elim
  · exact h1.elim
/-- enumerate of a list -/
def enumD (xs : List D) : List D := xs.mapIdx fun i x => .tup [.int (i : Nat), x]
theorem jok_enum {b : Bg} {w : Wd} {x : D} {a : Addr} {ds : List D} (r : Rel b w x (.ref a)) : JOk b w (Ite b.K a) (enumD ds) (fun M => viewL M x = some ds) := by
  intro w' M' H' l R k1
  obtain ⟨a', vs, ea, sq, rl⟩ := viewL_at R (r.mono0 l) k1
  cases ea
  refine ⟨fun i d e => ?_, ⟨vs, sq, ?_⟩⟩
  · rw [enumD, List.getElem?_mapIdx] at e
    obtain ⟨x1, e1, rfl⟩ := Option.map_eq_some_iff.mp e
    obtain ⟨v, ev, rv⟩ := rl.get e1
    refine ⟨⟨vs, v, sq, ev⟩, fun z H'' ⟨T, x', ez, hT, eH, hx⟩ => ?_⟩
    subst ez; subst eH
    have h1 := hx vs sq
    rw [ev] at h1
    cases h1
    exact pairT R hT (.int _) rv
  · rw [enumD, List.length_mapIdx, ← rl.1]
    exact Nat.le_refl _
def dEnum (ta : DTA) : DTI := fun ρ M R => ta ρ M fun xs M1 => match xs with
  | [x] => (match viewL M1 x with | some ds => R (enumD ds) (fun M => viewL M x = some ds) M1 | none => False)
  | _ => False
theorem di_enum {elts : List Expr} {kk : Nat} (hg : Gl X "enumerate") (hm : X.mg "enumerate" = none) (ha : DA X [e] ta) (hs : starEach [e] X.env = [(false, eval e X.env)] := by rfl) :
    DI X (.Tuple elts kk tpos) (.Call (.Name "enumerate" p) [e] [] pos) (dEnum ta) := by
  refine piM (pi_enum hg hm ha hs) fun σ H R ⟨w, ρ, M, R', Rs, h, k⟩ => ?_
  refine ⟨w, ρ, M, _, Rs, h, fun xs M1 h1 w1 vs H1 l1 R1 r1 => ?_⟩
  split at h1
  · obtain ⟨v, rfl, rv⟩ := r1.one
    split at h1
    · rename_i ds e1
      obtain ⟨a, vs', rfl, sq, rl⟩ := viewL_at R1.m rv e1
      exact ⟨a, vs', rfl, sq, k _ _ M1 h1 w1 _ H1 l1 R1 (jok_enum rv)⟩
    · exact h1.elim
  · exact h1.elim
end

/-! ### for -/
def forGo (tg : DTG) (tb : DTS) (keep : Store → Prop) (D : DEnds) : List DL.D → Env' → Store → Prop
  | [], ρ, M => keep M ∧ D.nx ρ M
  | x :: xs, ρ, M => keep M ∧ tg x ρ M fun ρ2 M2 => tb { D with nx := fun ρ' M' => TurnOk M ρ' M' (forGo tg tb keep D xs), ct := fun ρ' M' => TurnOk M ρ' M' (forGo tg tb keep D xs), bk := D.nx } ρ2 M2
def dFor (src : DTI) (tg : DTG) (tb : DTS) : DTS := fun D ρ M => src ρ M fun items keep M1 => forGo tg tb keep D items ρ M1
section
variable {X : Cx} {tg e iter : Expr} {src : DTI} {g : DTG} {tb : DTS} {body : List Stmt} {pos : Pos}
theorem forGo_keep {g : DTG} {tb : DTS} {keep : Store → Prop} {D : DEnds} {xs : List DL.D} {ρ : Env'} {M : Store} (h : forGo g tb keep D xs ρ M) : keep M := by
  cases xs with
  | nil => exact h.1
  | cons x xs => exact h.1
theorem ds_for (hp : PassesOwn (model X.prog X.w) X.A X.env X.xe) (hc : X.calm = true) (hi : DI X tg iter src) (hg : DG X tg g) (hb : DSs X body tb)
    (hs : ∀ x, foldedSetIterable iter X.env x = pure x := by intro _; rfl) : DS X (.For tg iter body [] pos) (dFor src g tb) := by
  refine psM (ps_for hp hc hi hg hb hs) fun D σ H ⟨w, ρ, M, D', R, h, E⟩ => ?_
  refine ⟨w, ρ, M, _, R, h, fun items keep M1 h1 w1 J H1 l1 R1 jk => ?_⟩
  refine ⟨fun i m σ H => m = items.length - i ∧ i ≤ items.length ∧ ∃ (w2 : Wd) (ρ2 : Env') (M2 : Store), w1.Le w2 ∧ RS (bgX X) w2 ρ2 M2 σ H ∧ forGo g tb keep D' (items.drop i) ρ2 M2, ⟨items.length, by simp, Nat.zero_le _, w1, ρ, M1, Wd.Le.refl w1, R1, by simpa using h1⟩, ?_⟩
  rintro i m σ2 H2 ⟨rfl, hi, w2, ρ2, M2, l2, R2, q2⟩
  obtain ⟨turns, stop⟩ := jk w2 M2 H2 l2.le0 R2.m (forGo_keep q2)
  by_cases hlt : i < items.length
  · have ed : items.drop i = items[i] :: items.drop (i + 1) := List.drop_eq_getElem_cons hlt
    rw [ed] at q2
    obtain ⟨kp, q2⟩ := q2
    obtain ⟨go, yl⟩ := turns i items[i] (List.getElem?_eq_getElem hlt)
    refine .inr ⟨go, fun σ' H' => ∃ (w3 : Wd) (ρ3 : Env') (M3 : Store), w1.Le w3 ∧ RS (bgX X) w3 ρ3 M3 σ' H' ∧ forGo g tb keep D' (items.drop (i + 1)) ρ3 M3, fun σ' H' q => ⟨items.length - (i + 1), by omega, rfl, hlt, q⟩, fun x H3 y => ?_⟩
    obtain ⟨w3, l3, R3, r3⟩ := yl x H3 y
    refine ⟨w3, ρ2, M2, items[i], _, ⟨R3, R2.e.mono l3⟩, r3, q2, fun ρ4 M4 q4 w4 σ4 H4 l4 R4 => ?_⟩
    refine ⟨w4, ρ4, M4, _, R4, q4, ?_⟩
    have again : NxR (bgX X) w4 (fun ρ' M' => TurnOk M2 ρ' M' (forGo g tb keep D' (items.drop (i + 1)))) (fun σ' H' => ∃ (w3 : Wd) (ρ3 : Env') (M3 : Store), w1.Le w3 ∧ RS (bgX X) w3 ρ3 M3 σ' H' ∧ forGo g tb keep D' (items.drop (i + 1)) ρ3 M3) := by
      intro ρ5 M5 h5 w5 σ5 H5 l5 R5
      obtain ⟨ρ6, M6, w6, l6, R6, q6⟩ := h5.sound R2.m ((l3.trans l4).trans l5) R5
      exact ⟨w6, ρ6, M6, l2.trans l6, R6, q6⟩
    have lw : w.Le w4 := (((l1.trans l2).trans l3).trans l4)
    exact ⟨again, E.nx.mono lw, again, fun d M' q w' v H' l R' r => E.rt d M' q w' v H' (lw.trans l) R' r⟩
  · have e : i = items.length := by omega
    subst e
    rw [List.drop_length] at q2
    exact .inl ⟨stop, E.nx _ _ q2.2 w2 _ H2 (l1.trans l2) R2⟩
end

/-! ### comprehensions -/
/-- a comprehension's target: a name | names -/
inductive Shape where
  | one (i : Nat) | many (is : List Nat)
def Shape.slots : Shape → List Nat
  | .one i => [i]
  | .many is => is
def gsNames : List Nat → TGs
  | [] => gNil
  | i :: r => gCons (gName i) (gsNames r)
def Shape.g (K : PySem.W.Frag) : Shape → TG
  | .one i => gName i
  | .many is => gTup K is.length (gsNames is)
def dwipe (ρ : Env') : List Nat → Env'
  | [] => ρ
  | v :: vs => (dwipe ρ vs).set v none
def setAll (ρ : Env') : List Nat → List D → Env'
  | i :: is, d :: ds => setAll (ρ.set i (some d)) is ds
  | _, _ => ρ
def Shape.bind (sh : Shape) (d : D) (ρ : Env') : Option Env' :=
  match sh with
  | .one i => some (ρ.set i (some d))
  | .many is => match d with | .tup ds => if ds.length = is.length then some (setAll ρ is ds) else none | _ => none
theorem dwipe_len (ρ : Env') : ∀ vs : List Nat, (dwipe ρ vs).length = ρ.length
  | [] => rfl
  | v :: vs => by unfold dwipe; rw [List.length_set, dwipe_len ρ vs]
theorem dwipe_some {ρ : Env'} {i : Nat} {x : D} : ∀ {vs : List Nat}, (dwipe ρ vs)[i]? = some (some x) → ρ[i]? = some (some x) ∧ i ∉ vs
  | [], h => ⟨h, by simp⟩
  | v :: vs, h => by
    unfold dwipe at h
    rw [List.getElem?_set] at h
    split at h
    · split at h <;> cases h
    · rename_i hne
      obtain ⟨h1, h2⟩ := dwipe_some h
      exact ⟨h1, by simp [h2]; exact fun e => hne e.symm⟩
theorem wipe_keep {σ : St} {i : Nat} {x : V} : ∀ {vs : List Nat}, σ[i]? = some (some x) → i ∉ vs → (wipe σ vs)[i]? = some (some x)
  | [], h, _ => h
  | v :: vs, h, hn => by
    unfold wipe
    rw [List.getElem?_set_ne (by intro e; exact hn (by simp [e]))]
    exact wipe_keep h (fun q => hn (by simp [q]))
theorem EnvR.wipe {b : Bg} {w : Wd} {ρ : Env'} {σ : St} (r : EnvR b w ρ σ) (vs : List Nat) : EnvR b w (dwipe ρ vs) (wipe σ vs) := by
  refine ⟨by rw [dwipe_len, wipe_length]; exact r.1, fun i d e => ?_⟩
  obtain ⟨e1, hn⟩ := dwipe_some e
  obtain ⟨v, ev, rv⟩ := r.2 i d e1
  exact ⟨v, wipe_keep ev hn, rv⟩
theorem wipe_get {σ : St} {i : Nat} : ∀ {vs : List Nat}, i ∈ vs → i < σ.length → (wipe σ vs)[i]? = some none
  | [], h, _ => by simp at h
  | v :: vs, h, hl => by
    unfold L2.wipe
    rw [List.getElem?_set]
    by_cases e : v = i
    · rw [if_pos e, if_pos (by rw [wipe_length, e]; exact hl)]
    · rw [if_neg e]
      exact wipe_get (by simpa [Ne.symm e] using h) hl
theorem wipe_set {σ : St} {vs : List Nat} {i : Nat} {x : Option V} (hi : i ∈ vs) : wipe (σ.set i x) vs = wipe σ vs := by
  refine List.ext_getElem? fun j => ?_
  by_cases hj : j ∈ vs
  · by_cases hl : j < σ.length
    · rw [wipe_get hj (by simpa using hl), wipe_get hj hl]
    · rw [List.getElem?_eq_none (by rw [wipe_length]; simp; omega), List.getElem?_eq_none (by rw [wipe_length]; omega)]
  · have ne : ∀ {vs : List Nat} {σ : St}, j ∉ vs → (wipe σ vs)[j]? = σ[j]? := by
      intro vs
      induction vs with
      | nil => intro _ _; rfl
      | cons v vs ih =>
        intro σ h
        unfold L2.wipe
        rw [List.getElem?_set_ne (by intro e; exact h (by simp [e]))]
        exact ih (fun q => h (by simp [q]))
    rw [ne hj, ne hj, List.getElem?_set_ne (by intro e; exact hj (e ▸ hi))]
theorem wipe_wipe {σ : St} {vs : List Nat} : wipe (wipe σ vs) vs = wipe σ vs := by
  have gen : ∀ (us : List Nat), (∀ u ∈ us, u ∈ vs) → wipe (wipe σ us) vs = wipe σ vs := by
    intro us
    induction us with
    | nil => intro _; rfl
    | cons u us ih =>
      intro h
      show wipe ((wipe σ us).set u none) vs = _
      rw [wipe_set (h u (by simp)), ih fun x hx => h x (by simp [hx])]
  exact gen vs fun _ h => h
theorem gsNames_ok {b : Bg} {w : Wd} {vs : List Nat} : ∀ {is : List Nat} {ds : List D} {xs : List V} {ρ : Env'} {σ : St} {H : Hp} {Q : St → Hp → Prop}, (∀ i ∈ is, i ∈ vs) → ds.length = is.length → RelL b w ds xs → EnvR b w ρ σ → (∀ σ', EnvR b w (setAll ρ is ds) σ' → wipe σ' vs = wipe σ vs → Q σ' H) → gsNames is xs σ H Q
  | [], ds, xs, ρ, σ, H, Q, _, hl, r, e, k => by
    have hd : ds = [] := List.length_eq_zero_iff.mp hl
    subst hd
    have hx : xs = [] := r.zero
    subst hx
    exact ⟨rfl, k σ (by unfold setAll; exact e) rfl⟩
  | i :: is, d :: ds, [], ρ, σ, H, Q, _, hl, r, e, k => by cases r.1
  | i :: is, d :: ds, x :: xs, ρ, σ, H, Q, hi, hl, r, e, k => by
    refine ⟨x, xs, rfl, ?_⟩
    refine gsNames_ok (is := is) (ds := ds) (xs := xs) (ρ := ρ.set i (some d)) (σ := σ.set i (some x)) (fun j hj => hi j (by simp [hj])) (Nat.succ.inj hl) ⟨Nat.succ.inj r.1, fun j a c e1 e2 => r.2 (j + 1) a c e1 e2⟩ (e.set (r.2 0 d x rfl rfl)) fun σ' e' hw => ?_
    exact k σ' e' (hw.trans (wipe_set (hi i (by simp))))
theorem shape_ok {b : Bg} {w : Wd} {M : Store} {H : Hp} {sh : Shape} {vs : List Nat} {d : D} {x : V} {ρ ρ2 : Env'} {σ : St} {Q : St → Hp → Prop} (hv : ∀ i ∈ sh.slots, i ∈ vs) (R : RM b w M H) (r : Rel b w d x) (e : EnvR b w ρ σ) (hb : sh.bind d ρ = some ρ2)
    (k : ∀ σ', EnvR b w ρ2 σ' → wipe σ' vs = wipe σ vs → Q σ' H) : sh.g b.K x σ H Q := by
  cases sh with
  | one i =>
    cases hb
    exact k _ (e.set r) (wipe_set (hv i (by simp [Shape.slots])))
  | many is =>
    simp only [Shape.bind] at hb
    split at hb
    · rename_i ds
      split at hb
      · rename_i hl
        cases hb
        cases r with
        | tup s l q =>
          exact ⟨_, _, rfl, sqT_mono R.sub s, l.symm.trans hl, gsNames_ok hv hl ⟨l, q⟩ e k⟩
      · cases hb
    · cases hb
def lcGo (sh : Shape) (vs : List Nat) (keep : Store → Prop) (tt : DTT) (te : DTE) (ρ : Env') : List D → Store → List D → (List D → Store → Prop) → Prop
  | [], M, acc, Q => keep M ∧ Q acc M
  | x :: xs, M, acc, Q => keep M ∧ match sh.bind x (dwipe ρ vs) with
    | some ρ2 => tt ρ2 M fun c M3 => if c = true then te ρ2 M3 fun y M4 => acc.length < sizeLine ∧ lcGo sh vs keep tt te ρ xs M4 (acc ++ [y]) Q else lcGo sh vs keep tt te ρ xs M3 acc Q
    | none => False
theorem lcGo_keep {sh : Shape} {vs : List Nat} {keep : Store → Prop} {tt : DTT} {te : DTE} {ρ : Env'} {xs : List D} {M : Store} {acc : List D} {Q : List D → Store → Prop} (h : lcGo sh vs keep tt te ρ xs M acc Q) : keep M := by
  cases xs with
  | nil => exact h.1
  | cons x xs => exact h.1
/-- the list stays as it is -/
def dLc (src : DTI) (sh : Shape) (tt : DTT) (te : DTE) (vs : List Nat) : DTE := fun ρ M Q => src ρ M fun items keep M1 => lcGo sh vs keep tt te ρ items M1 [] fun acc M2 => Q (.lst acc) M2
/-- the list may change -/
def dLcM (src : DTI) (sh : Shape) (tt : DTT) (te : DTE) (vs : List Nat) : DTE := fun ρ M Q => src ρ M fun items keep M1 => lcGo sh vs keep tt te ρ items M1 [] fun acc M2 => Q (.ref M2.length) (M2 ++ [.lst acc])
/-- one cell more held aside -/
def Wd.hold (w : Wd) (D : Addr) (o : HO) : Wd := ⟨w.F, w.as, (D, o) :: w.fr⟩
theorem RM.hold {b : Bg} {w : Wd} {M : Store} {H : Hp} (R : RM b w M H) {D : Addr} {o : HO} (h : H D = none) : RM b (w.hold D o) M (upd H D o) := by
  have le : w.Le0 (w.hold D o) := ⟨fun _ _ h => h, List.prefix_rfl⟩
  refine ⟨fun a u e => ?_, R.len, R.nd, fun n a m e1 e2 => ?_, fun q hq => ?_⟩
  · have := R.sub a u e
    rw [upd_ne (ne_of_none this h)]
    exact this
  · obtain ⟨f, u, e3, c⟩ := R.cell n a m e1 e2
    exact ⟨f, u, by rw [upd_ne (ne_of_none e3 h)]; exact e3, c.mono0 le⟩
  · rcases List.mem_cons.mp hq with rfl | hq
    · exact ⟨upd_same, R.nF h, R.nas h⟩
    · obtain ⟨e1, e2, e3⟩ := R.fr q hq
      exact ⟨by rw [upd_ne (ne_of_none e1 h)]; exact e1, e2, e3⟩
theorem RM.rehold {b : Bg} {w : Wd} {fr : List (Addr × HO)} {M : Store} {H : Hp} {D : Addr} {o o' : HO} (R : RM b w M H) (e : w.fr = (D, o) :: fr) (hn : ∀ q ∈ fr, q.1 ≠ D) : RM b ⟨w.F, w.as, (D, o') :: fr⟩ M (upd H D o') := by
  obtain ⟨eD, fD, nD⟩ := R.fr (D, o) (by rw [e]; simp)
  have le : w.Le0 ⟨w.F, w.as, (D, o') :: fr⟩ := ⟨fun _ _ h => h, List.prefix_rfl⟩
  refine ⟨fun a u ea => ?_, R.len, R.nd, fun n a m e1 e2 => ?_, fun q hq => ?_⟩
  · have ha : a ≠ D := fun z => by subst z; rw [show w.F a = some u from ea] at fD; cases fD
    rw [upd_ne ha]
    exact R.sub a u ea
  · obtain ⟨f, u, e3, c⟩ := R.cell n a m e1 e2
    have ha : a ≠ D := fun z => by subst z; exact nD (List.mem_of_getElem? e1)
    exact ⟨f, u, by rw [upd_ne ha]; exact e3, c.mono0 le⟩
  · rcases List.mem_cons.mp hq with rfl | hq
    · exact ⟨upd_same, fD, nD⟩
    · obtain ⟨e1, e2, e3⟩ := R.fr q (by rw [e]; simp [hq])
      exact ⟨by rw [upd_ne (hn q hq)]; exact e1, e2, e3⟩
/-- the held cell is frozen | put into the store -/
theorem RM.unhold {b : Bg} {w : Wd} {fr : List (Addr × HO)} {M : Store} {H : Hp} {D : Addr} {o : HO} (R : RM b w M H) (e : w.fr = (D, o) :: fr) (hn : ∀ q ∈ fr, q.1 ≠ D) : RM b ⟨upd w.F D o, w.as, fr⟩ M H := by
  obtain ⟨eD, fD, nD⟩ := R.fr (D, o) (by rw [e]; simp)
  have le : w.Le0 ⟨upd w.F D o, w.as, fr⟩ := ⟨fun a u h => by show upd w.F D o a = some u; rw [upd_ne (ne_of_none h fD)]; exact h, List.prefix_rfl⟩
  refine ⟨fun a u ea => ?_, R.len, R.nd, fun n a m e1 e2 => ?_, fun q hq => ?_⟩
  · have ea : upd w.F D o a = some u := ea
    by_cases ha : a = D
    · subst ha
      rw [upd_same] at ea
      cases ea
      exact eD
    · rw [upd_ne ha] at ea
      exact R.sub a u ea
  · obtain ⟨f, u, e3, c⟩ := R.cell n a m e1 e2
    have ha : a ≠ D := fun z => by subst z; exact nD (List.mem_of_getElem? e1)
    exact ⟨by show upd w.F D o a = none; rw [upd_ne ha]; exact f, u, e3, c.mono0 le⟩
  · obtain ⟨e1, e2, e3⟩ := R.fr q (by rw [e]; simp [hq])
    exact ⟨e1, by show upd w.F D o q.1 = none; rw [upd_ne (hn q hq)]; exact e2, e3⟩
theorem RM.unholdM {b : Bg} {w : Wd} {fr : List (Addr × HO)} {M : Store} {H : Hp} {D : Addr} {o : HO} {m : MO} (R : RM b w M H) (e : w.fr = (D, o) :: fr) (hn : ∀ q ∈ fr, q.1 ≠ D) (c : CellR b ⟨w.F, w.as ++ [D], fr⟩ D m o) : RM b ⟨w.F, w.as ++ [D], fr⟩ (M ++ [m]) H := by
  obtain ⟨eD, fD, nD⟩ := R.fr (D, o) (by rw [e]; simp)
  have le : w.Le0 ⟨w.F, w.as ++ [D], fr⟩ := ⟨fun _ _ h => h, List.prefix_append _ _⟩
  refine ⟨R.sub, by show (w.as ++ [D]).length = _; simp [R.len], ?_, fun n a m' e1 e2 => ?_, fun q hq => ?_⟩
  · show (w.as ++ [D]).Nodup
    rw [List.nodup_append]
    exact ⟨R.nd, by simp, fun a ha b hb e' => by simp at hb; subst hb; subst e'; exact nD ha⟩
  · have e1 : (w.as ++ [D])[n]? = some a := e1
    by_cases hn : n < w.as.length
    · rw [List.getElem?_append_left hn] at e1
      rw [List.getElem?_append_left (by rw [← R.len]; exact hn)] at e2
      obtain ⟨f, u, e3, c'⟩ := R.cell n a m' e1 e2
      exact ⟨f, u, e3, c'.mono0 le⟩
    · rw [List.getElem?_append_right (Nat.le_of_not_lt hn)] at e1
      rw [List.getElem?_append_right (by rw [← R.len]; exact Nat.le_of_not_lt hn), ← R.len] at e2
      have hz : n - w.as.length = 0 := by have := (List.getElem?_eq_some_iff.mp e1).1; simp at this; omega
      rw [hz] at e1 e2
      simp at e1 e2
      subst e1; subst e2
      exact ⟨fD, o, eD, c⟩
  · obtain ⟨e1, e2, e3⟩ := R.fr q (by rw [e]; simp [hq])
    exact ⟨e1, e2, by show q.1 ∉ w.as ++ [D]; simp [e3, hn q hq]⟩
section
variable {X : Cx} {elt tg iter : Expr} {ifs : List Expr} {scope : Scope} {own : List (Str × Nat)} {pos : Pos} {src : DTI} {sh : Shape} {tt : DTT} {te : DTE}
theorem up_lc {fin : List D → Store → DK → Prop} (hv : ∀ i ∈ sh.slots, i ∈ own.map (·.2))
    (hfin : ∀ (w0 w : Wd) (ρ : Env') (M : Store) (σ : St) (H : Hp) (D : Addr) (acc : List DL.D) (accV : List V) (Q' : DK) (Q : VK), w0.Le0 w → w.fr = (D, .lst accV) :: w0.fr → (∀ q ∈ w0.fr, q.1 ≠ D) → RM (bgX X) w M H → EnvR (bgX X) w ρ σ → RelL (bgX X) w acc accV → fin acc M Q' →
      (∀ d M', Q' d M' → ∀ (w' : Wd) (v : V) (H' : Hp), w0.Le w' → RS (bgX X) w' ρ M' σ H' → Rel (bgX X) w' d v → Q v H') → Q (.ref D) H)
    {σ : St} {H : Hp} {Q : VK} (h : upE (bgX X) (fun ρ M Q => src ρ M fun items keep M1 => lcGo sh (own.map (·.2)) keep tt te ρ items M1 [] fun acc M2 => fin acc M2 Q) σ H Q) :
    tLc (upI (bgX X) src) (sh.g X.K) (upT (bgX X) tt) (upE (bgX X) te) (own.map (·.2)) σ H Q := by
  obtain ⟨w, ρ, M, Q', R, h, k⟩ := h
  refine ⟨w, ρ, M, _, R, h, fun items keep M1 h1 w1 J H1 l1 R1 jk D hD => ?_⟩
  have hfr := R1.m.nfr hD
  refine ⟨fun i m H => m = items.length - i ∧ i ≤ items.length ∧ ∃ (w2 : Wd) (M2 : Store) (acc : List DL.D) (accV : List V), w1.Le0 w2 ∧ w2.fr = (D, .lst accV) :: w1.fr ∧ RM (bgX X) w2 M2 H ∧ RelL (bgX X) w2 acc accV ∧ lcGo sh (own.map (·.2)) keep tt te ρ (items.drop i) M2 acc (fun acc M2 => fin acc M2 Q'),
    ⟨items.length, by simp, Nat.zero_le _, w1.hold D (.lst []), M1, [], [], ⟨fun _ _ h => h, List.prefix_rfl⟩, rfl, R1.m.hold hD, .nil, by simpa using h1⟩, ?_⟩
  rintro i m H2 ⟨rfl, hi, w2, M2, acc, accV, l2, ef, R2, ra, q2⟩
  obtain ⟨turns, stop⟩ := jk w2 M2 H2 l2 R2 (lcGo_keep q2)
  by_cases hlt : i < items.length
  · have ed : items.drop i = items[i] :: items.drop (i + 1) := List.drop_eq_getElem_cons hlt
    rw [ed] at q2
    obtain ⟨kp, q2⟩ := q2
    obtain ⟨go, yl⟩ := turns i items[i] (List.getElem?_eq_getElem hlt)
    refine .inr ⟨go, fun H' => ∃ (w3 : Wd) (M3 : Store) (acc : List DL.D) (accV : List V), w1.Le0 w3 ∧ w3.fr = (D, .lst accV) :: w1.fr ∧ RM (bgX X) w3 M3 H' ∧ RelL (bgX X) w3 acc accV ∧ lcGo sh (own.map (·.2)) keep tt te ρ (items.drop (i + 1)) M3 acc (fun acc M2 => fin acc M2 Q'),
      fun H' q => ⟨items.length - (i + 1), by omega, rfl, hlt, q⟩, fun x H3 y => ?_⟩
    obtain ⟨w3, l3, R3, r3⟩ := yl x H3 y
    split at q2
    · rename_i ρ2 hb
      have e3 : EnvR (bgX X) w3 (dwipe ρ (own.map (·.2))) (wipe σ (own.map (·.2))) := (R1.e.mono0 (l2.trans l3.le0)).wipe _
      refine shape_ok (b := bgX X) hv R3 r3 e3 hb fun σ3 e4 hw => ?_
      refine ⟨hw.trans wipe_wipe |>.trans rfl, ?_⟩
      refine ⟨w3, ρ2, M2, _, ⟨R3, e4⟩, q2, fun c M4 h4 w4 H4 l4 R4 => ?_⟩
      cases c with
      | false =>
        rw [if_neg Bool.false_ne_true] at h4 ⊢
        exact ⟨w4, M4, acc, accV, (l2.trans l3.le0).trans l4.le0, (l4.fr.trans l3.fr).trans ef, R4.m, ra.mono (l3.trans l4), h4⟩
      | true =>
        rw [if_pos rfl] at h4 ⊢
        refine ⟨w4, ρ2, M4, _, R4, h4, fun z M5 h5 w5 v5 H5 l5 R5 r5 => ?_⟩
        have ef5 : w5.fr = (D, .lst accV) :: w1.fr := ((l5.fr.trans l4.fr).trans l3.fr).trans ef
        obtain ⟨eD, _, _⟩ := R5.m.fr (D, .lst accV) (by rw [ef5]; simp)
        have ra5 := ra.mono ((l3.trans l4).trans l5)
        refine ⟨accV, eD, by rw [← ra5.1]; exact h5.1, ⟨w5.F, w5.as, (D, .lst (accV ++ [v5])) :: w1.fr⟩, M5, acc ++ [z], accV ++ [v5], ?_, rfl, R5.m.rehold ef5 hfr, ?_, h5.2⟩
        · have := ((l2.trans l3.le0).trans l4.le0).trans l5.le0
          exact ⟨this.F, this.as⟩
        · have le : w5.Le0 ⟨w5.F, w5.as, (D, .lst (accV ++ [v5])) :: w1.fr⟩ := ⟨fun _ _ h => h, List.prefix_rfl⟩
          exact (ra5.append (.cons r5 .nil)).mono0 le
    · exact q2.elim
  · have e : i = items.length := by omega
    subst e
    rw [List.drop_length] at q2
    refine .inl ⟨stop, ?_⟩
    exact hfin w1 w2 ρ M2 σ H2 D acc accV Q' Q l2 ef hfr R2 (R1.e.mono0 l2) ra q2.2 fun d M' q w' v H' l R' r => k d M' q w' v H' (l1.trans l) R' r
theorem fin_froz (w0 w : Wd) (ρ : Env') (M : Store) (σ : St) (H : Hp) (D : Addr) (acc : List DL.D) (accV : List V) (Q' : DK) (Q : VK) (l : w0.Le0 w) (ef : w.fr = (D, .lst accV) :: w0.fr) (hn : ∀ q ∈ w0.fr, q.1 ≠ D) (R : RM (bgX X) w M H) (e : EnvR (bgX X) w ρ σ) (ra : RelL (bgX X) w acc accV) (q : Q' (.lst acc) M)
    (k : ∀ d M', Q' d M' → ∀ (w' : Wd) (v : V) (H' : Hp), w0.Le w' → RS (bgX X) w' ρ M' σ H' → Rel (bgX X) w' d v → Q v H') : Q (.ref D) H := by
  obtain ⟨eD, fD, nD⟩ := R.fr (D, .lst accV) (by rw [ef]; simp)
  have le : w.Le0 ⟨upd w.F D (.lst accV), w.as, w0.fr⟩ := ⟨fun a u h => by show upd w.F D _ a = some u; rw [upd_ne (ne_of_none h fD)]; exact h, List.prefix_rfl⟩
  have rr := ra.mono0 le
  refine k _ M q ⟨upd w.F D (.lst accV), w.as, w0.fr⟩ _ H ⟨(l.trans le).F, (l.trans le).as, rfl⟩ ⟨R.unhold ef hn, e.mono0 le⟩ (.lst (.inl (.inl upd_same)) rr.1 rr.2)
theorem fin_cell (w0 w : Wd) (ρ : Env') (M : Store) (σ : St) (H : Hp) (D : Addr) (acc : List DL.D) (accV : List V) (Q' : DK) (Q : VK) (l : w0.Le0 w) (ef : w.fr = (D, .lst accV) :: w0.fr) (hn : ∀ q ∈ w0.fr, q.1 ≠ D) (R : RM (bgX X) w M H) (e : EnvR (bgX X) w ρ σ) (ra : RelL (bgX X) w acc accV) (q : Q' (.ref M.length) (M ++ [.lst acc]))
    (k : ∀ d M', Q' d M' → ∀ (w' : Wd) (v : V) (H' : Hp), w0.Le w' → RS (bgX X) w' ρ M' σ H' → Rel (bgX X) w' d v → Q v H') : Q (.ref D) H := by
  have le : w.Le0 ⟨w.F, w.as ++ [D], w0.fr⟩ := ⟨fun _ _ h => h, List.prefix_append _ _⟩
  refine k _ _ q ⟨w.F, w.as ++ [D], w0.fr⟩ _ H ⟨(l.trans le).F, (l.trans le).as, rfl⟩ ⟨R.unholdM ef hn (.lst (ra.mono0 le)), e.mono0 le⟩ (.ref ?_)
  show (w.as ++ [D])[M.length]? = some D
  rw [← R.len, List.getElem?_append_right (Nat.le_refl _)]
  simp
def dYes : DTT := fun _ M Q => Q true M
theorem dts_nil : DTs X [] dYes := ptsM pts_nil fun σ H Q ⟨w, ρ, M, Q', R, h, k⟩ => k true M h w H (Wd.Le.refl w) R
theorem dts_one {c : Expr} {t : DTT} (h : DT X c t) : DTs X [c] t := pts_one h
theorem de_lc (hc : X.calm = true) (hN : X.N.Nodup) (hi : DI X tg iter src) (ok : BlkOk X.N X.env.scope scope own) (hv : ∀ i ∈ sh.slots, i ∈ own.map (·.2))
    (hg : ∀ (s : Shared) (H : Hp) (C : Addr) (cl : List (Str × Addr)) (fp : List Addr), PG (X.blk s H scope (compEnvC scope cl C X.env) fp) tg (sh.g X.K)) (ht : ∀ (s : Shared) (H : Hp) (C : Addr) (cl : List (Str × Addr)) (fp : List Addr), DTs (X.blk s H scope (compEnvC scope cl C X.env) fp) ifs tt)
    (he : ∀ (s : Shared) (H : Hp) (C : Addr) (cl : List (Str × Addr)) (fp : List Addr), DE (X.blk s H scope (compEnvC scope cl C X.env) fp) elt te) (hs : ∀ x, foldedSetIterable iter X.env x = pure x := by intro _; rfl) :
    DE X (.ListComp elt [⟨tg, iter, ifs, 0⟩] scope pos) (dLc src sh tt te (own.map (·.2))) :=
  peM (pe_lc hc hN hi ok hg ht he hs) fun σ H Q h => up_lc (fin := fun acc M Q => Q (.lst acc) M) hv fin_froz h
theorem de_lcM (hc : X.calm = true) (hN : X.N.Nodup) (hi : DI X tg iter src) (ok : BlkOk X.N X.env.scope scope own) (hv : ∀ i ∈ sh.slots, i ∈ own.map (·.2))
    (hg : ∀ (s : Shared) (H : Hp) (C : Addr) (cl : List (Str × Addr)) (fp : List Addr), PG (X.blk s H scope (compEnvC scope cl C X.env) fp) tg (sh.g X.K)) (ht : ∀ (s : Shared) (H : Hp) (C : Addr) (cl : List (Str × Addr)) (fp : List Addr), DTs (X.blk s H scope (compEnvC scope cl C X.env) fp) ifs tt)
    (he : ∀ (s : Shared) (H : Hp) (C : Addr) (cl : List (Str × Addr)) (fp : List Addr), DE (X.blk s H scope (compEnvC scope cl C X.env) fp) elt te) (hs : ∀ x, foldedSetIterable iter X.env x = pure x := by intro _; rfl) :
    DE X (.ListComp elt [⟨tg, iter, ifs, 0⟩] scope pos) (dLcM src sh tt te (own.map (·.2))) :=
  peM (pe_lc hc hN hi ok hg ht he hs) fun σ H Q h => up_lc (fin := fun acc M Q => Q (.ref M.length) (M ++ [MO.lst acc])) hv fin_cell h
end
end DL

set_option Elab.async false
set_option linter.all false
set_option maxRecDepth 100000
set_option maxHeartbeats 2000000
/-! DLFun: defs and their calls over data; further built-ins; try whose body raises nothing. -/
namespace DL
open PySem L2
open PyProof.Rows hiding St

/-! ### defs -/
abbrev DSp := List D → Store → DK → Prop
def toSp (b : Bg) (sp : DSp) : Sp := fun vs H Q _ => ∃ (w : Wd) (ds : List D) (M : Store) (Q' : DK), RM b w M H ∧ RelL b w ds vs ∧ sp ds M Q' ∧
  ∀ d M', Q' d M' → ∀ (w' : Wd) (v : V) (H' : Hp), w.Le w' → RM b w' M' H' → Rel b w' d v → Q v H'
/-- the def of the module by this name keeps this promise -/
def Def (P : Program) (w : World) (K : PySem.W.Frag) (mg : Str → Option Value) (base : Heap) (x : Str) (k : Nat) (ps : List Str) (sp : DSp) : Prop :=
  ∃ f fd, mg x = some (.ref f) ∧ PySem.W.keepIn K (.ref f) = true ∧ Binds K fd ps [] ∧ FnOk P w K mg base CX0 k f fd ps (toSp ⟨P, w, K⟩ sp)
def startD (n : Nat) (ds : List D) : Env' := ds.map some ++ List.replicate (n - ds.length) none
def endsD (M : Store) (Q : DK) : DEnds := { nx := fun _ M' => RetOk M .non M' Q, rt := fun d M' => RetOk M d M' Q }
theorem startD_rel {b : Bg} {w : Wd} {N : List Str} {ds : List D} {vs : List V} (r : RelL b w ds vs) : EnvR b w (startD N.length ds) (L2.start N vs) := by
  refine ⟨by simp [startD, L2.start, r.1], fun i d e => ?_⟩
  unfold startD at e
  unfold L2.start
  by_cases hi : i < ds.length
  · rw [List.getElem?_append_left (by simpa using hi)] at e
    rw [List.getElem?_map] at e
    obtain ⟨d', ed, h⟩ := Option.map_eq_some_iff.mp e
    cases h
    obtain ⟨v, ev, rv⟩ := r.get ed
    refine ⟨v, ?_, rv⟩
    rw [List.getElem?_append_left (by simpa [← r.1] using hi), List.getElem?_map, ev]
    rfl
  · rw [List.getElem?_append_right (by simpa using hi)] at e
    rw [List.getElem?_replicate] at e
    split at e
    · cases e
    · cases e
section
variable {P : Program} {w : World} {K : PySem.W.Frag} {mg : Str → Option Value} {base : Heap}
/-- THE RULE for a def over data: the body's derivation, and what the body says of the data -/
theorem fd_mk {x qual : Str} {st : Stmt} {f : Addr} {fd : FuncData} {N ps : List Str} {k : Nat} {sp : DSp} (F : Fun K x qual st f fd) (S : FnScope N ps (defScope st)) (len : ∀ ds M Q, sp ds M Q → ds.length = ps.length)
    (h : ∃ t : DTS, (∀ (cdv : Value) (A : Around) (outer : List Env) (s : Shared) (H : Hp) (E : XK), Room k (A.deeper (envOfC qual (defScope st) s.heap.objs.size f cdv)) → DSs (cxOf CX0 P w K mg base N qual (defScope st) f cdv A outer s H E).nox (defBody st) t) ∧
      ∀ ds M Q, sp ds M Q → t (endsD M Q) (startD N.length ds) M) : FnOk P w K mg base CX0 (k + 1) f fd ps (toSp ⟨P, w, K⟩ sp) := by
  obtain ⟨t, der, data⟩ := h
  refine F.ok S (fun vs H Q E ⟨w, ds, M, Q', R, r, q, _⟩ => r.1.symm.trans (len ds M Q' q)) fun cdv A outer s H vs Q E hr ⟨w, ds, M, Q', R, r, q, kk⟩ => ?_
  refine ⟨_, der cdv A outer s H E hr, w, startD N.length ds, M, endsD M Q', ⟨R, startD_rel r⟩, data ds M Q' q, ?_, ?_, ?_, ?_⟩
  · intro ρ' M' h' w' σ' H' l R'
    obtain ⟨d', M1, w3, l3, R3, r3, q3⟩ := RetOk.sound (v := .non) h' R l R'.m .non
    exact kk d' M1 q3 w3 .non H' l3 R3 r3
  · exact fun _ _ z => z.elim
  · exact fun _ _ z => z.elim
  · intro d M' h' w' v H' l R' r'
    obtain ⟨d', M1, w3, l3, R3, r3, q3⟩ := RetOk.sound h' R l R' r'
    exact kk d' M1 q3 w3 v H' l3 R3 r3
end
section
variable {X : Cx} {x : Str} {k : Nat} {ps : List Str} {sp : DSp} {e : Expr} {es : List Expr} {p pos : Pos} {tr : DTA}
def dCall (sp : DSp) (t : DTA) : DTE := fun ρ M Q => t ρ M fun ds M1 => sp ds M1 Q
theorem de_call (F : Def X.prog X.w X.K X.mg X.base x k ps sp) (hr : Room k X.A) (hg : Gl X x) (ha : DA X (e :: es) tr) (hdb : (x == ("__debug__" : Str)) = false := by decide)
    (he : starEach (e :: es) X.env = (false, eval e X.env) :: starEach es X.env := by rfl) (hpl : (backTo pos (starEach es X.env)).any (·.1) = false := by rfl) : DE X (.Call (.Name x p) (e :: es) [] pos) (dCall sp tr) := by
  obtain ⟨f, fd, hm, hk, hb, F⟩ := F
  refine peM (pe_call (E := E0) F hr hg hm hk hb .nil pass0 ha hdb he hpl) fun σ H Q ⟨w, ρ, M, Q', R, h, kk⟩ => ?_
  refine ⟨w, ρ, M, _, R, h, fun ds M1 h1 w1 vs H1 l1 R1 r1 => ?_⟩
  show toSp _ sp (vs ++ []) H1 Q E0
  rw [List.append_nil]
  exact ⟨w1, ds, M1, Q', R1.m, r1, h1, fun d M' q w' v H' l R' r => kk d M' q w' v H' (l1.trans l) ⟨R', R1.e.mono l⟩ r⟩
theorem de_call0 (F : Def X.prog X.w X.K X.mg X.base x k ps sp) (hr : Room k X.A) (hg : Gl X x) (hdb : (x == ("__debug__" : Str)) = false := by decide) : DE X (.Call (.Name x p) [] [] pos) (dCall sp dNil) := by
  obtain ⟨f, fd, hm, hk, hb, F⟩ := F
  refine peM (pe_call0 (E := E0) F hr hg hm hk hb .nil pass0 hdb) fun σ H Q ⟨w, ρ, M, Q', R, h, kk⟩ => ?_
  show toSp _ sp ([] ++ []) H Q E0
  exact ⟨w, [], M, Q', R.m, .nil, h, fun d M' q w' v H' l R' r => kk d M' q w' v H' l ⟨R', R.e.mono l⟩ r⟩

/-! ### slices -/
def DTO := Env' → Store → (Option Int → Store → Prop) → Prop
def upO (b : Bg) (t : DTO) : TO := fun σ H Q => ∃ (w : Wd) (ρ : Env') (M : Store) (Q' : Option Int → Store → Prop), RS b w ρ M σ H ∧ t ρ M Q' ∧ ∀ o M', Q' o M' → ∀ (w' : Wd) (H' : Hp), w.Le w' → RS b w' ρ M' σ H' → Q o H'
def dNoPart : DTO := fun _ M Q => Q none M
def dPart (t : DTE) : DTO := fun ρ M Q => t ρ M fun x M1 => match intOf x with | some i => Q (some i) M1 | none => False
abbrev DO' (X : Cx) (e : Option Expr) (t : DTO) : Prop := PO X e (upO (bgX X) t)
variable {te : DTE} {lo hi : Option Expr} {tl th : DTO} {p2 : Pos} {o : Option Expr}
theorem poM {t t' : TO} (h : PO X o t) (m : ∀ σ H Q, t' σ H Q → t σ H Q) : PO X o t' := ⟨fun pins s σ H Q I q => h.run pins s σ H Q I (m σ H Q q)⟩
theorem do_none : DO' X none dNoPart := poM po_none fun σ H Q ⟨w, ρ, M, Q', R, h, kk⟩ => kk none M h w H (Wd.Le.refl w) R
theorem do_some (h : DE X e te) : DO' X (some e) (dPart te) := poM (po_some h) fun σ H Q ⟨w, ρ, M, Q', R, h, kk⟩ => by
  refine ⟨w, ρ, M, _, R, h, fun x M1 h1 w1 v1 H1 l1 R1 r1 => ?_⟩
  split at h1
  · rename_i i ei
    rw [intOf_eq ei] at r1
    cases r1
    exact ⟨i, rfl, kk _ M1 h1 w1 H1 l1 R1⟩
  · exact h1.elim
def cutD (xs : List D) (lo hi : Option Int) : List D := (xs.drop (HT.sIx xs.length 0 lo)).take (HT.sIx xs.length xs.length hi - HT.sIx xs.length 0 lo)
theorem cut_rel {b : Bg} {w : Wd} {ds : List D} {vs : List V} (r : RelL b w ds vs) (lo hi : Option Int) : RelL b w (cutD ds lo hi) (cutV vs lo hi) := by
  unfold cutD cutV
  rw [← r.1]
  exact (r.drop _).take _
/-- x[lo:hi] of a text, a list (a new one, that stays as it is), a tuple -/
def sliceR (x : D) (lo hi : Option Int) (M : Store) (Q : DK) : Prop := match x with
  | .str z => z.length ≤ sizeLine ∧ Q (.str (cutS z lo hi)) M
  | .tup ds => Q (.tup (cutD ds lo hi)) M
  | x => match viewL M x with | some ds => Q (.lst (cutD ds lo hi)) M | none => False
def dSl (te : DTE) (tl th : DTO) : DTE := fun ρ M Q => te ρ M fun x M1 => tl ρ M1 fun l M2 => th ρ M2 fun u M3 => sliceR x l u M3 Q
def rSlX (b : Bg) : V → Option Int → Option Int → Hp → VK → Prop := fun v lo hi H Q => ∃ (w : Wd) (M : Store) (x : D) (Q' : DK), RM b w M H ∧ Rel b w x v ∧ sliceR x lo hi M Q' ∧
  ∀ d M', Q' d M' → ∀ (w' : Wd) (z : V) (H' : Hp), w.Le w' → RM b w' M' H' → Rel b w' d z → Q z H'
theorem cutD_whole {xs : List D} {lo hi : Option Int} (h : HT.sIx xs.length 0 lo = 0 ∧ HT.sIx xs.length xs.length hi = xs.length) : cutD xs lo hi = xs := by
  unfold cutD
  rw [h.1, h.2]
  simp
theorem sl_of {X : Cx} : SlR X (rSlX (bgX X)) := by
  intro pins s σ H x v vl vu lo hi sl Q I rx hs pl pu h
  obtain ⟨w, M, d, Q', R, r, h, kk⟩ := h
  unfold sliceR at h
  split at h
  · rename_i z
    cases r
    exact sl_str pins s σ H _ v vl vu lo hi sl Q I rx hs pl pu ⟨z, rfl, h.1, kk _ M h.2 w _ H (Wd.Le.refl w) R (.str _)⟩
  · rename_i ds
    cases r with
    | tup g l q =>
      rename_i a vs
      have rl : RelL (bgX X) w ds vs := ⟨l, q⟩
      refine sl_tupA pins s σ H _ v vl vu lo hi sl Q I rx hs pl pu ⟨a, vs, rfl, sqT_mono (K := X.K) R.sub g, fun hw => ?_, fun hw p hp => ?_⟩
      · rw [cutD_whole (by rw [l]; exact hw)] at h
        exact kk _ M h w _ H (Wd.Le.refl w) R (.tup g l q)
      · exact kk _ M h _ _ _ (Wd.froz_le (R.nF hp)) (R.froz hp) (frozT R (cut_rel rl lo hi) hp)
  · rename_i x' n1 n2
    split at h
    · rename_i ds e
      obtain ⟨a, vs, rfl, g, rl⟩ := viewL_at R r e
      exact sl_list pins s σ H _ v vl vu lo hi sl Q I rx hs pl pu ⟨a, vs, rfl, g, fun p hp => kk _ M h _ _ _ (Wd.froz_le (R.nF hp)) (R.froz hp) (frozL R (cut_rel rl lo hi) hp)⟩
    · exact h.elim
theorem de_slice (h : DE X e te) (hl : DO' X lo tl) (hh : DO' X hi th) : DE X (.Subscript e (.Slice lo hi none p2) pos) (dSl te tl th) := by
  refine peM (pe_slice sl_of h hl hh) fun σ H Q ⟨w, ρ, M, Q', R, h, kk⟩ => ?_
  refine ⟨w, ρ, M, _, R, h, fun x M1 h1 w1 v1 H1 l1 R1 r1 => ?_⟩
  refine ⟨w1, ρ, M1, _, R1, h1, fun o M2 h2 w2 H2 l2 R2 => ?_⟩
  refine ⟨w2, ρ, M2, _, R2, h2, fun o3 M3 h3 w3 H3 l3 R3 => ?_⟩
  exact ⟨w3, M3, x, Q', R3.m, r1.mono (l2.trans l3), h3, fun d M' q w' v' H' l' R' r' => kk d M' q w' v' H' (((l1.trans l2).trans l3).trans l') ⟨R', R3.e.mono l'⟩ r'⟩
end
end DL

set_option Elab.async false
set_option linter.all false
set_option maxRecDepth 100000
set_option maxHeartbeats 2000000
/-! DLSort: sorted over data: of a list, of a dict's keys, of a set of texts. -/
namespace DL
open PySem L2
open PyProof.Rows hiding St

mutual
theorem reads_lt {h : Heap} : ∀ (d : PyData) {v : Value} {as : List Addr}, Reads h v d as → ∀ x ∈ as, x < h.objs.size
  | .none, _, _, r => by cases r; simp
  | .bool _, _, _, r => by cases r; simp
  | .int _, _, _, r => by cases r; simp
  | .str _, _, _, r => by cases r; simp
  | .list ds, _, _, r => by
    cases r with
    | list ho _ _ ra =>
      intro x hx
      rcases List.mem_cons.mp hx with e | e
      · rw [e]; exact Heap.lt_size ho
      · exact readsAll_lt ds ra x e
  | .tuple ds, _, _, r => by
    cases r with
    | tuple ho _ _ ra => exact readsAll_lt ds ra
  | .dict kvs, _, _, r => by
    cases r with
    | dict ho _ _ ra rb =>
      intro x hx
      rw [List.cons_append] at hx
      rcases List.mem_cons.mp hx with e | e
      · rw [e]; exact Heap.lt_size ho
      · rcases List.mem_append.mp e with e | e
        · exact readsK_lt kvs ra x e
        · exact readsV_lt kvs rb x e
theorem readsAll_lt {h : Heap} : ∀ (ds : List PyData) {vs : List Value} {as : List Addr}, ReadsAll h vs ds as → ∀ x ∈ as, x < h.objs.size
  | [], _, _, r => by cases r; simp
  | d :: ds, _, _, r => by
    cases r with
    | cons h1 h2 =>
      intro x hx
      rcases List.mem_append.mp hx with e | e
      · exact reads_lt d h1 x e
      · exact readsAll_lt ds h2 x e
theorem readsK_lt {h : Heap} : ∀ (kvs : List (PyData × PyData)) {vs : List Value} {as : List Addr}, ReadsAll h vs (kvs.map (·.1)) as → ∀ x ∈ as, x < h.objs.size
  | [], _, _, r => by cases r; simp
  | (a, b) :: ds, _, _, r => by
    cases r with
    | cons h1 h2 =>
      intro x hx
      rcases List.mem_append.mp hx with e | e
      · exact reads_lt a h1 x e
      · exact readsK_lt ds h2 x e
theorem readsV_lt {h : Heap} : ∀ (kvs : List (PyData × PyData)) {vs : List Value} {as : List Addr}, ReadsAll h vs (kvs.map (·.2)) as → ∀ x ∈ as, x < h.objs.size
  | [], _, _, r => by cases r; simp
  | (a, b) :: ds, _, _, r => by
    cases r with
    | cons h1 h2 =>
      intro x hx
      rcases List.mem_append.mp hx with e | e
      · exact reads_lt b h1 x e
      · exact readsV_lt ds h2 x e
end
section
variable {X : Cx} {pins : List (Addr × Obj)} {σ : St} {H : Hp} {s : Shared}
theorem each_of_vals {β : Type} {g : β → V} : ∀ {zs : List β} {us : List Value}, Vals (zs.map g) us → PySem.W.EachIs (fun u z => RelV (g z) u) us zs
  | [], _, .nil => .nil
  | _ :: _, _, .cons r t => .cons r (each_of_vals t)
theorem vals_of_each {β : Type} {g : β → V} : ∀ {zs : List β} {us : List Value}, PySem.W.EachIs (fun u z => RelV (g z) u) us zs → Vals (zs.map g) us
  | _, _, .nil => .nil
  | _, _, .cons r t => .cons r (vals_of_each t)
theorem each_reads {β : Type} (I : Inv X pins σ H s) {g : β → V} {enc : β → PyData} : ∀ {zs : List β} {us : List Value}, (∀ z ∈ zs, Dp X.K H (g z) (enc z)) → Vals (zs.map g) us → PySem.W.EachIs (fun u z => ∃ as, Reads s.heap u (enc z) as ∧ s.heap.objs.size ∉ as) us zs
  | [], _, _, .nil => .nil
  | z :: zs, _, h, .cons r t => by
    obtain ⟨as, q⟩ := Dp.reads I (enc z) (g z) _ (h z (List.mem_cons_self ..)) r
    exact .cons ⟨as, q, fun hm => Nat.lt_irrefl _ (reads_lt _ q _ hm)⟩ (each_reads I (fun y hy => h y (List.mem_cons_of_mem _ hy)) t)
/-- what sorted does behind the collecting -/
structure SrcOk (X : Cx) (H : Hp) {β : Type} (zs : List β) (g : β → V) (enc : β → PyData) : Prop where
  dp : ∀ z ∈ zs, Dp X.K H (g z) (enc z)
  al : PySem.W.AllAlike (zs.map enc)
  so : PySem.W.Sortable (zs.map enc)
  len : zs.length ≤ sizeLine
  dep : ∀ z ∈ zs, (enc z).depth ≤ 8
theorem sorted_col {β : Type} {u : Value} {Q : VK} (hu : X.A.units + 64 < cLine)
    (col : ∀ (R : List Value → Shared → Prop) (E : Value → Shared → Prop), (∀ (s' : Shared) (us : List Value) (zs : List β) (g : β → V) (enc : β → PyData), Inv X pins σ H s' → Vals (zs.map g) us → SrcOk X H zs g enc →
      (∀ p, H p = none → Q (.ref p) (upd H p (.lst ((zs.mergeSort (PySem.W.dataLe false enc)).map g)))) → R us s') → wpAny (model X.prog X.w) X.A.in1 (collect u) R E s) :
    wpAny (model X.prog X.w) X.A (call (.builtin "sorted") [u]) (EP X pins σ Q) X.xe s := by
  refine Calls.call_function_entry PyProof.Rows.kind_sorted PyProof.Rows.plain_sorted PyProof.Rows.entry_sorted (PyProof.Rows.args_sorted1 _) ?_
  unfold Builtin.«sorted»
  refine wpAny_bind (m := checkCount "sorted" 1 1 _) (wpAny_pure ?_)
  refine wpAny_bind (col _ _ fun s' us zs g enc I rv ok q => ?_)
  have hl : us.length = zs.length := by rw [← rv.length, List.length_map]
  have hL : us.length ≤ sizeLine := by rw [hl]; exact ok.len
  refine wpAny_bind (wpAny_newList ?_ hL)
  have hoL : (s'.heap.push (seqObj "list" us.toArray 0)).get? s'.heap.objs.size = some (seqObj "list" us.toArray 0) := Heap.get?_push_size _ rfl
  have kp : ∀ b o, s'.heap.get? b = some o → (s'.heap.push (seqObj "list" us.toArray 0)).get? b = some o := fun b o e => Heap.get?_push_of_some _ e
  have er := (each_reads I ok.dp rv).mono (R' := fun u z => ∃ as, Reads (s'.heap.push (seqObj "list" us.toArray 0)) u (enc z) as ∧ s'.heap.objs.size ∉ as) fun _ _ ⟨as, r, n⟩ => ⟨as, PyProof.Rows.Reads.keeps kp r, n⟩
  refine wpAny_bind (wpAny_holding (PySem.W.list_sort_data (s := { s' with heap := s'.heap.push (seqObj "list" us.toArray 0) }) hoL (each_of_vals rv) er ok.al ok.so ok.len ?_ fun out hol eo => ?_))
  · intro b hb
    have h1 := ok.dep b hb
    have h2 : X.A.in1.units = X.A.units + 1 := rfl
    omega
  obtain ⟨e', he'⟩ := PyProof.Rows.sortedHeap_at (vs := us) (out := out.toArray) hoL
  have rv' := vals_of_each eo
  refine wpAny_pure ⟨_, rfl, .ref s'.heap.objs.size, upd H s'.heap.objs.size (.lst ((zs.mergeSort (PySem.W.dataLe false enc)).map g)), I.laid (t' := s'.toks) (fun b u e => ?_) (Nat.le_refl _)
    (show ObjOk X.prog X.w _ _ _ (.lst _) from ⟨?_, out, e', rv', he'⟩), rfl, q _ (I.hok.fresh (Nat.le_refl _))⟩
  · have hb : b < s'.heap.objs.size := Heap.lt_size e
    rw [PyProof.Rows.sortedHeap_old (Nat.ne_of_lt hb) (by rw [size_push']; exact Nat.lt_succ_of_lt hb)]
    exact Heap.get?_push_of_some _ e
  · rw [List.length_map, (List.mergeSort_perm zs _).length_eq]
    exact ok.len
end

/-! ### over data -/
theorem relL_of {b : Bg} {w : Wd} {γ : Type} {f : γ → D} {g : γ → V} : ∀ {zs : List γ}, (∀ z ∈ zs, Rel b w (f z) (g z)) → RelL b w (zs.map f) (zs.map g)
  | [], _ => .nil
  | z :: zs, h => .cons (h z (List.mem_cons_self ..)) (relL_of fun y hy => h y (List.mem_cons_of_mem _ hy))
theorem zip_rel {b : Bg} {w : Wd} {β : Type} {f : β → D} : ∀ {bs : List β} {vs : List V}, RelL b w (bs.map f) vs → (bs.zip vs).map (·.1) = bs ∧ (bs.zip vs).map (·.2) = vs ∧ ∀ z ∈ bs.zip vs, z.1 ∈ bs ∧ Rel b w (f z.1) z.2
  | [], vs, r => by
    have : vs = [] := List.length_eq_zero_iff.mp r.1.symm
    subst this
    exact ⟨rfl, rfl, fun z h => by cases h⟩
  | x :: bs, [], r => by cases r.1
  | x :: bs, v :: vs, r => by
    obtain ⟨h1, h2, h3⟩ := zip_rel (bs := bs) (vs := vs) (f := f) (b := b) (w := w) ⟨Nat.succ.inj r.1, fun i a c e1 e2 => r.2 (i + 1) a c e1 e2⟩
    refine ⟨by rw [List.zip_cons_cons, List.map_cons, h1], by rw [List.zip_cons_cons, List.map_cons, h2], fun z hz => ?_⟩
    rw [List.zip_cons_cons] at hz
    rcases List.mem_cons.mp hz with e | e
    · subst e
      exact ⟨List.mem_cons_self .., r.2 0 _ _ rfl rfl⟩
    · exact ⟨List.mem_cons_of_mem _ (h3 z e).1, (h3 z e).2⟩
/-- what may be sorted: a list or a tuple, a dict's keys -/
def srcD (M : Store) (x : D) : Option (List D) :=
  match x with
  | .dn kvs => some (kvs.map fun p => kD p.1)
  | .ref n => match M[n]? with
    | some (.lst ds) => some ds
    | some (.dn kvs) => some (kvs.map fun p => kD p.1)
    | _ => none
  | x => viewS M x
structure SrtOk (M : Store) {β : Type} (bs : List β) (f : β → D) (enc : β → PyData) : Prop where
  py : ∀ b ∈ bs, PyOf M (f b) (enc b)
  al : PySem.W.AllAlike (bs.map enc)
  so : PySem.W.Sortable (bs.map enc)
  len : bs.length ≤ sizeLine
  dep : ∀ b ∈ bs, (enc b).depth ≤ 8
def sortedR : DRC := fun xs M Q => match xs with
  | [x] => ∃ (β : Type) (bs : List β) (f : β → D) (enc : β → PyData), srcD M x = some (bs.map f) ∧ SrtOk M bs f enc ∧ Q (.lst ((bs.mergeSort (PySem.W.dataLe false enc)).map f)) M
  | _ => False
section
variable {X : Cx} {pins : List (Addr × Obj)} {σ : St} {H : Hp} {s : Shared}
theorem sorted_fin {w : Wd} {M : Store} {β : Type} {bs : List β} {f : β → D} {enc : β → PyData} {vs : List V} {u : Value} {Q : VK} {Q' : DK} (hu : X.A.units + 64 < cLine) (R : RM (bgX X) w M H) (rl : RelL (bgX X) w (bs.map f) vs) (ok : SrtOk M bs f enc)
    (q : Q' (.lst ((bs.mergeSort (PySem.W.dataLe false enc)).map f)) M) (kk : ∀ d M', Q' d M' → ∀ (w' : Wd) (z : V) (H' : Hp), w.Le w' → RM (bgX X) w' M' H' → Rel (bgX X) w' d z → Q z H')
    (col : ∀ (R : List Value → Shared → Prop) (E : Value → Shared → Prop), (∀ (s' : Shared) (us : List Value), Inv X pins σ H s' → Vals vs us → R us s') → wpAny (model X.prog X.w) X.A.in1 (collect u) R E s) :
    wpAny (model X.prog X.w) X.A (call (.builtin "sorted") [u]) (EP X pins σ Q) X.xe s := by
  obtain ⟨h1, h2, h3⟩ := zip_rel rl
  refine sorted_col (H := H) (β := β × V) hu fun R' E k => col R' E fun s' us I rv => ?_
  refine k s' us (bs.zip vs) (·.2) (fun z => enc z.1) I (by rw [h2]; exact rv) ⟨?_, ?_, ?_, ?_, ?_⟩ fun p hp => ?_
  · exact fun z hz => (ok.py z.1 (h3 z hz).1).dp R _ (h3 z hz).2
  · have e : (bs.zip vs).map (fun z => enc z.1) = bs.map enc := by
      conv => rhs; rw [← h1]
      rw [List.map_map]
      rfl
    rw [e]
    exact ok.al
  · have e : (bs.zip vs).map (fun z => enc z.1) = bs.map enc := by
      conv => rhs; rw [← h1]
      rw [List.map_map]
      rfl
    rw [e]
    exact ok.so
  · rw [← List.length_map (f := (·.1)), h1]
    exact ok.len
  · exact fun z hz => ok.dep z.1 (h3 z hz).1
  · have e : ((bs.zip vs).mergeSort (PySem.W.dataLe false fun z => enc z.1)).map (·.1) = bs.mergeSort (PySem.W.dataLe false enc) := by
      rw [List.map_mergeSort (f := (·.1)) (r := PySem.W.dataLe false fun z : β × V => enc z.1) (s := PySem.W.dataLe false enc) (fun a _ b _ => rfl), h1]
    have rl2 : RelL (bgX X) w ((bs.mergeSort (PySem.W.dataLe false enc)).map f) (((bs.zip vs).mergeSort (PySem.W.dataLe false fun z => enc z.1)).map (·.2)) := by
      rw [← e, List.map_map]
      exact relL_of fun z hz => (h3 z ((List.mergeSort_perm _ _).mem_iff.mp hz)).2
    exact kk _ M q _ _ _ (Wd.froz_le (R.nF hp)) (R.froz hp) (frozL R rl2 hp)
/-- a dict with tuple keys: its keys collected -/
theorem collect_dn {w : Wd} {M : Store} {a : Addr} {ds : List (NestedKey × D)} {xs : List (NestedKey × Addr × Value)} {f : Nat → V} {R' : List Value → Shared → Prop} {E : Value → Shared → Prop} (hc : X.calm = true) (I : Inv X pins σ H s) (R : RM (bgX X) w M H) (d : DnAt (bgX X) w H a ds xs f)
    (h : ∀ (s' : Shared) (us : List Value), Inv X pins σ H s' → Vals (xs.map fun x => V.ref x.2.1) us → R' us s') : wpAny (model X.prog X.w) X.A.in1 (collect (.ref a)) R' E s := by
  obtain ⟨dd, hz, lo⟩ := d.dict I R
  obtain ⟨es, ep, raw, hsz, hes⟩ := dd.raw
  refine PySem.W.kdu_collect (A := X.A.in1) (PySem.KdlSrc.rawDict (es := es) (ep := ep) lo) (I.ok.hd hc) raw (Nat.le_trans (Nat.le_of_eq hsz) hz) fun h' tk acc hk hacc => ?_
  refine h { s with heap := h', toks := tk } acc.toList (I.kept hk) (vals_of_idx _ _ (by rw [Array.length_toList, hacc.1, hsz, List.length_map]) fun j u e => ?_)
  obtain ⟨hi, eu⟩ := hacc.2 j u (by rw [← Array.getElem?_toList]; exact e)
  obtain ⟨y, e1, e2, _⟩ := hes j hi
  refine ⟨V.ref y.2.1, by rw [List.getElem?_map, e1]; rfl, ?_⟩
  rw [eu, e2]
  exact rfl
theorem collect_seq {a : Addr} {vs : List V} {R' : List Value → Shared → Prop} {E : Value → Shared → Prop} (I : Inv X pins σ H s) (g : SqL X.K H a vs ∨ SqT X.K H a vs)
    (h : ∀ (s' : Shared) (us : List Value), Inv X pins σ H s' → Vals vs us → R' us s') : wpAny (model X.prog X.w) X.A.in1 (collect (.ref a)) R' E s := by
  rcases g with g | g
  · obtain ⟨its, r, ⟨o, n, ho, hc, _, hd⟩, hz⟩ := I.list g
    have hl := r.length
    refine wpAny_collect_seq a (.inl rfl) ho hc hd (fun h' hk => ?_) (by rw [List.size_toArray]; omega)
    exact h _ _ (I.kept (t' := s.toks) hk) (by simpa using r)
  · obtain ⟨its, r, ⟨o, ho, hc, n, hd⟩, hz⟩ := I.tuple g
    have hl := r.length
    refine wpAny_collect_seq a (.inr rfl) ho hc hd (fun h' hk => ?_) (by rw [List.size_toArray]; omega)
    exact h _ _ (I.kept (t' := s.toks) hk) (by simpa using r)
theorem cx_sorted (hc : X.calm = true) (hu : X.A.units + 64 < cLine) : CallX X (.builtin "sorted") sortedR := by
  intro pins s σ H vs us Q I r h
  obtain ⟨w, M, xs, Q', R, r1, h, kk⟩ := h
  unfold sortedR at h
  split at h
  · rename_i x
    obtain ⟨β, bs, f, enc, e, ok, q⟩ := h
    obtain ⟨v, rfl, rx⟩ := r1.one
    obtain ⟨u, rfl, rv⟩ := vals1 r
    have seq : ∀ ds, viewS M x = some ds → ds = bs.map f → wpAny (model X.prog X.w) X.A (call (.builtin "sorted") [u]) (EP X pins σ Q) X.xe s := fun ds e1 e2 => by
      subst e2
      obtain ⟨a, vs, rfl, g, rl⟩ := viewS_at R rx e1
      cases rv
      exact sorted_fin hu R rl ok q kk fun R' E k => collect_seq I g k
    have dn : ∀ a kvs ys g, v = .ref a → DnAt (bgX X) w H a kvs ys g → kvs.map (fun p => kD p.1) = bs.map f → wpAny (model X.prog X.w) X.A (call (.builtin "sorted") [u]) (EP X pins σ Q) X.xe s := fun a kvs ys g e1 d e2 => by
      subst e1
      cases rv
      refine sorted_fin hu R (vs := ys.map fun x => V.ref x.2.1) ?_ ok q kk fun R' E k => collect_dn hc I R d k
      rw [← e2]
      refine ⟨?_, fun i a' b' e1 e2 => ?_⟩
      · have := congrArg List.length d.keys
        simpa using this
      · rw [List.getElem?_map] at e1 e2
        obtain ⟨kv, ekv, rfl⟩ := Option.map_eq_some_iff.mp e1
        obtain ⟨y, ey, rfl⟩ := Option.map_eq_some_iff.mp e2
        have ek : kv.1 = y.1 := by
          have := congrArg (fun l => l[i]?) d.keys
          simp only [List.getElem?_map, ekv, ey, Option.map_some, Option.some.injEq] at this
          exact this
        rw [ek]
        exact d.ks i y ey
    unfold srcD at e
    split at e
    · rename_i kvs
      obtain ⟨a, ys, g, ev, d⟩ := DnAt.of R rx
      exact dn a kvs ys g ev d (Option.some.inj e)
    · rename_i n
      split at e
      · rename_i ds en
        exact seq ds (by simp [viewS, en]) (Option.some.inj e)
      · rename_i kvs en
        obtain ⟨a, ys, g, ev, _, d⟩ := DnAt.cell R rx en
        exact dn a kvs ys g ev d (Option.some.inj e)
      · cases e
    · exact seq _ e rfl
  · exact h.elim
end
end DL

set_option Elab.async false
set_option linter.all false
set_option maxRecDepth 100000
set_option maxHeartbeats 4000000
/-! DLSet: sorted(set(list of texts)). -/
namespace DL
open PySem L2
open PySem.Spec PySem.Froz
open PyProof.Rows hiding St strKind
open PySem (strKind)

def keyS (e : Int × Value) : Str := match e.2 with | .str k _ => k | _ => ⟨#[]⟩
/-- the payload of a set: the texts of l, in some order; its table can be walked -/
structure SOk (w : World) (D : SD) (l : List Str) : Prop where
  good : ∀ e ∈ D.1.toList, ∃ k tk, e = (hashStr w k, Value.str k tk)
  perm : (D.1.toList.map keyS).Perm l
  fit : D.2.2.fits D.1.size = true
  ris : Ris D.2.2.place.toList
  led : w.params.followText "set-order" = true ∨ D.2.2.led = true
section
variable {P : Program} {w : World}
theorem SOk.sz {D : SD} {l : List Str} (o : SOk w D l) : D.1.size = l.length := by
  rw [← o.perm.length_eq, List.length_map, Array.length_toList]
theorem SOk.tx {D : SD} {l : List Str} (o : SOk w D l) : TxOk P w D l where
  el := fun e he => by
    obtain ⟨k, tk, rfl⟩ := o.good e he
    exact ⟨⟨k, is_str k tk, rfl⟩, rfl⟩
  mem := fun k => by
    rw [← o.perm.mem_iff, List.mem_map]
    constructor
    · rintro ⟨e, he, q⟩
      obtain ⟨k', tk, rfl⟩ := o.good e he
      have : k' = k := q
      subst this
      exact ⟨_, he, is_str _ _⟩
    · rintro ⟨e, he, q⟩
      obtain ⟨k', tk, rfl⟩ := o.good e he
      refine ⟨_, he, ?_⟩
      exact (strKind P w).inj (Value.str k' tk) k' k (is_str k' tk) q
  sz := o.sz
  fit := o.fit
theorem SOk.new {t : SetTable} {ep : Nat} (hf : t.fits 0 = true) (hr : t.place = #[]) (hl : w.params.followText "set-order" = true ∨ t.led = true) : SOk w (#[], ep, t) [] where
  good := fun e he => by simp at he
  perm := by simp
  fit := hf
  ris := by
    show Ris t.place.toList
    rw [hr]
    exact List.Pairwise.nil
  led := hl
theorem SOk.tail {ep : Nat} {es : Array (Int × Value)} {t : SetTable} {wd : Bool} {l : List Str} (o : SOk w (es, ep, t) l) : SOk w (tailTx ep es t wd) l := by
  unfold tailTx
  by_cases c : (!wd && t.tooFull) = true
  · rw [if_pos c]
    have p := relayAll_perm t es (SetTable.grown es.size)
    refine ⟨fun e he => o.good e (p.mem_iff.mp he), (p.map keyS).trans o.perm, relayAll_fits t es _, relayAll_ris t es _, o.led.imp id fun z => ?_⟩
    rw [relayAll_led]
    exact z
  · rw [if_neg c]
    exact ⟨o.good, o.perm, o.fit, o.ris, o.led⟩
theorem SOk.add {D : SD} {l : List Str} (o : SOk w D l) (k : Str) (tk : Tok) : SOk w (addTx (hashStr w k) (.str k tk) D) (k :: l) := by
  obtain ⟨es, ep, t⟩ := D
  have p := layNew_perm t es (hashStr w k) (.str k tk)
  rw [Array.toList_push] at p
  have q := p.trans (List.perm_append_singleton _ _)
  have hg : ∀ e ∈ (layNew t es (hashStr w k) (.str k tk)).1.toList, ∃ k tk, e = (hashStr w k, Value.str k tk) := fun e he => by
    rcases List.mem_cons.mp (q.mem_iff.mp he) with z | z
    · exact ⟨k, tk, z⟩
    · exact o.good e z
  have hp : ((layNew t es (hashStr w k) (.str k tk)).1.toList.map keyS).Perm (k :: l) := (q.map keyS).trans (List.Perm.cons k o.perm)
  have hf := layNew_fits t es (hashStr w k) (.str k tk)
  have hr := layNew_ris t es (hashStr w k) (.str k tk) o.ris
  have hl := layNew_led t es (hashStr w k) (.str k tk)
  unfold addTx
  refine SOk.tail ⟨hg, hp, ?_, ?_, ?_⟩
  · show SetTable.fits (if _ then _ else _) _ = true
    split
    · exact SetTable.fits_plain_off hf
    · exact hf
  · show Ris (SetTable.place (if _ then _ else _)).toList
    split <;> exact hr
  · refine o.led.imp id fun z => ?_
    show SetTable.led (if _ then _ else _) = true
    have z' : (layNew t es (hashStr w k) (.str k tk)).2.1.led = true := hl.trans z
    split <;> exact z'
end
def setObj (D : SD) : Obj := { cls := .type "set", data := .set D.1 D.2.1 D.2.2 }
section
variable {P : Program} {w : World} {A : Around} {E : Value → Shared → Prop} {s : Shared}
def ddS (l : List Str) : List Str → List Str
  | [] => l
  | k :: r => ddS (if k ∈ l then l else k :: l) r
theorem add_any {a : Addr} {D : SD} {l : List Str} {k : Str} {u : Tok} {Q : Bool → Shared → Prop} (ho : s.heap.get? a = some (sObj "set" D)) (F : SOk w D l) (hb : l.length + 1 < scanBound)
    (h : ∀ (b : Bool) (D' : SD) (h' : Heap), h'.get? a = some (sObj "set" D') → SOk w D' (if k ∈ l then l else k :: l) → Heap.SameBut a s.heap h' → Q b { s with heap := h' }) : wpAny (model P w) A (setAddHashed a (.str k u) (hashStr w k)) Q E s := by
  by_cases hk : k ∈ l
  · obtain ⟨es, ep, t⟩ := D
    have hd : (sObj "set" (es, ep, t)).data = .set es ep t := rfl
    have T : TxOk P w (es, ep, t) l := F.tx
    have hf : t.fits es.size = true := F.fit
    have hel : ElemsOf (strKind P w) es.toList := T.el
    have hsz : es.size = l.length := F.sz
    have hkey : (strKind P w).is k (.str k u) = true := is_str k u
    obtain ⟨j, hj⟩ : ∃ j, List.findIdx? (fun e => (strKind P w).is k e.2) es.toList = some j := by
      cases hr : List.findIdx? (fun e => (strKind P w).is k e.2) es.toList with
      | some j => exact ⟨j, rfl⟩
      | none =>
        obtain ⟨e, he, q⟩ := (T.mem k).mp hk
        have c := List.findIdx?_eq_none_iff.mp hr e he
        rw [q] at c
        cases c
    have h2 := h false (es, ep, t) s.heap ho (by rw [if_pos hk]; exact F) (Heap.SameBut.refl a s.heap)
    unfold setAddHashed setAddHashedIn
    refine wpAny_holding (wpAny_bind (wpAny_setState_of ho hd hf ?_))
    dsimp only
    rw [byScan_of rfl (by omega) hel]
    simp only [↓reduceIte]
    unfold setAddByScan
    refine wpAny_bind ?_
    refine wpAny_bind (wpAny_rule ?_)
    refine wpAny_bind (wpAny_setScan_of (knd := strKind P w) (k := k) hkey ho hd hf hel ?_)
    rw [hj]
    dsimp only
    exact wpAny_pure (wpAny_pure h2)
  · have q := F.add k u
    refine add_x ho (F.tx (P := P)) hk hb ?_
    refine h true _ _ (get_upd _ ho rfl) (by rw [if_neg hk]; exact q) ?_
    exact Heap.SameBut.update ..
end

section
variable {P : Program} {w : World} {A : Around} {E : Value → Shared → Prop} {s : Shared}
/-- the set of texts stands at a -/
def SAt (w : World) (h : Heap) (a : Addr) (l : List Str) : Prop := ∃ D, h.get? a = some (sObj "set" D) ∧ SOk w D l
theorem ddS_len : ∀ (r l : List Str), (ddS l r).length ≤ l.length + r.length
  | [], l => Nat.le_refl _
  | k :: r, l => by
    have h := ddS_len r (if k ∈ l then l else k :: l)
    show (ddS _ r).length ≤ _
    by_cases c : k ∈ l
    · rw [if_pos c] at h ⊢
      rw [List.length_cons]
      omega
    · rw [if_neg c] at h ⊢
      rw [List.length_cons] at h ⊢
      omega
theorem set_loop {I : Addr} {fp wr : List Addr} {G : Array GenState → Array GenState → Prop} {St : Nat → Shared → Prop} {R : Result → Shared → Prop} {xs : List Str}
    (W : WalksS P w A.in1 I fp wr G xs.length (fun i v => ∃ t, v = Value.str (xs.getD i Str.empty) t) St) (S : Addr) (hSf : S ∉ fp) :
    ∀ (rest : List Str) (i : Nat) (l : List Str) (s : Shared), xs.drop i = rest → i ≤ xs.length → l.length + rest.length < scanBound → St i s → SAt w s.heap S l →
      (∀ s', Moved (S :: wr) G s s' → SAt w s'.heap S (ddS l rest) → R (.ok (.ret .none)) s') → codeAny (model P w) A (.builtin "set.update.loop" ⟨[.ref S, .ref I], []⟩) R s := by
  have hSw : S ∉ wr := fun h => hSf (W.sub _ h)
  have up : ∀ b ∈ wr, b ∈ S :: wr := fun b hb => List.mem_cons_of_mem _ hb
  intro rest
  induction rest with
  | nil =>
    intro i l s hd hi hb hst hS hR
    have e : i = xs.length := by
      have := congrArg List.length hd
      rw [List.length_drop, List.length_nil] at this
      omega
    subst e
    refine codeAny_builtin F.entry_set_update_loop ?_
    rw [Around.under_plainId F.plain_set_update_loop _]
    show wpAny _ A.in1 (pyNext (.ref I) >>= _) _ _ s
    refine wpAny_bind (W.done s _ _ hst fun s' hm => ?_)
    obtain ⟨D, ho, ok⟩ := hS
    exact wpAny_pure (hR s' (hm.mono up) ⟨D, hm.heap S _ hSw ho, ok⟩)
  | cons k rest ih =>
    intro i l s hd hi hb hst hS hR
    have hlt : i < xs.length := by
      have := congrArg List.length hd
      rw [List.length_drop, List.length_cons] at this
      omega
    have hk : xs.getD i Str.empty = k := by
      have q := List.getElem?_drop (xs := xs) (i := i) (j := 0)
      rw [hd] at q
      rw [List.getD_eq_getElem?_getD]
      have q' : xs[i]? = some k := q.symm
      rw [q']
      rfl
    have hd' : xs.drop (i + 1) = rest := by
      have q := congrArg List.tail hd
      rw [List.tail_drop] at q
      exact q
    refine codeAny_builtin F.entry_set_update_loop ?_
    rw [Around.under_plainId F.plain_set_update_loop _]
    show wpAny _ A.in1 (pyNext (.ref I) >>= _) _ _ s
    refine wpAny_bind (W.item i s _ _ hlt hst fun v s' hP hst' hm => ?_)
    obtain ⟨t, rfl⟩ := hP
    rw [hk]
    obtain ⟨D, ho, ok⟩ := hS
    show wpAny _ A.in1 (holding [Value.str k t] (setAdd S (.str k t)) >>= _) _ _ s'
    refine wpAny_bind (wpAny_holding ?_)
    unfold setAdd
    refine wpAny_holding ?_
    refine wpAny_bind ((strKind P w).pyHash (k := k) (is_str k t) ?_)
    rw [List.length_cons] at hb
    refine add_any (s := { s' with toks := s'.toks + 1 }) (hm.heap S _ hSw ho) ok (by omega) fun b D' h' ho' ok' hsb => ?_
    have hl' : (if k ∈ l then l else k :: l).length + rest.length < scanBound := by
      split
      · omega
      · rw [List.length_cons]; omega
    refine wpAny_pure ⟨plainId_quiet F.plain_set_update_loop _, ih (i + 1) _ _ hd' hlt hl' (W.frame _ s' _ _ hst' (Nat.le_succ _) fun b hb o e => ?_) ⟨D', ho', ok'⟩ fun s'' hm'' hS'' => ?_⟩
    · rw [hsb.2 b (fun h : b = S => hSf (by rw [← h]; exact hb))]; exact e
    · refine hR s'' (Moved.trans W.gtrans ((hm.mono up).then_heap (Nat.le_succ _) fun b o hb e => ?_) hm'') hS''
      rw [hsb.2 b (fun h : b = S => hb (by rw [h]; exact List.mem_cons_self))]; exact e
def obj0 (w : World) : Obj := { cls := .type "set", dict := none, data := .set #[] 0 (.fresh 0 0 (!w.params.followText "set-order")) }
theorem sat0 {h : Heap} {a : Addr} (e : h.get? a = some (obj0 w)) : SAt w h a [] := ⟨(#[], 0, .fresh 0 0 (!w.params.followText "set-order")), e, .new (by rfl) rfl (by
  show _ ∨ (!w.params.followText "set-order") = true
  cases w.params.followText "set-order"
  · exact .inr rfl
  · exact .inl rfl)⟩
set_option maxHeartbeats 6400000 in
/-- set(xs), xs a list of texts -/
theorem set_list {l : Addr} {items : Array Value} {xs : List Str} {Q : Value → Shared → Prop} (hh : A.handled = none) (hl : s.heap.IsList l items) (hi : PyProof.Rows.StrsAre items.toList xs) (hb : xs.length < scanBound)
    (h : ∀ (h' : Heap) (tk : Nat), SAt w h' s.heap.objs.size (ddS [] xs) → (∀ b o, s.heap.get? b = some o → h'.get? b = some o) → Q (.ref s.heap.objs.size) { s with heap := h', toks := tk }) :
    wpAny (model P w) A (call (.type "set") [.ref l]) Q E s := by
  obtain ⟨c, tl, hmro⟩ := F.called_set.mro
  have hmade := F.called_set.made
  have hsub := F.called_set.sub
  refine wpAny_call (codeAny_of_tree ?_)
  show wpAny _ _ (callAny (.type "set") _) _ _ _
  refine wpAny_pure ⟨Code.quiet_builtin _ (by decide +kernel), codeAny_builtin F.entry_type_call ?_⟩
  rw [Around.under_plain (weight_type_call_type "set" [.ref l] []) rfl]
  have h1 := F.called_set.notType
  have h2 := F.called_set.canCreate
  have hct := F.typeCall_set_1 (.ref l)
  repeat (any_goals (first | assumption | wp_step))
  refine codeAny_mono (code_set_led1 (.ref l) (E := E) (Q₁ := fun obj s₁ => obj = .ref s.heap.objs.size ∧ s₁ = { s with heap := s.heap.push (obj0 w) }) ⟨rfl, rfl⟩) fun r s₁ hr => ?_
  rcases r with e | fl
  · exact hr
  cases fl with
  | next => exact hr.elim
  | brk => exact hr.elim
  | cont => exact hr.elim
  | ret obj =>
  obtain ⟨rfl, rfl⟩ := hr
  have hS : (s.heap.push (obj0 w)).get? s.heap.objs.size = some (obj0 w) := Heap.get?_push_size _ rfl
  have hT : Shared.TypeIs { s with heap := s.heap.push (obj0 w) } (.ref s.heap.objs.size) "set" := ⟨_, hS, rfl⟩
  have hli := F.called_set.init.lookup
  have hbi := F.called_set.init.bind (.ref s.heap.objs.size)
  repeat (any_goals (first | assumption | wp_step))
  refine codeAny_mono (codeAny_call_builtin (R := wants (fun r s₂ => r = .none ∧ ∃ h' tk, s₂ = { s with heap := h', toks := tk } ∧ SAt w h' s.heap.objs.size (ddS [] xs) ∧ (∀ b o, s.heap.get? b = some o → h'.get? b = some o)) E)
    F.called_set.init.plain F.entry_set_init (check_set_init_1 hT ?_)) fun r₂ s₂ hr₂ => ?_
  · obtain ⟨⟨ocls, odict, odata, oslots⟩, hol, hcl, nl, hdl⟩ := hl
    simp only at hcl hdl
    subst hcl; subst hdl
    have hol' : (s.heap.push (obj0 w)).get? l = some { cls := .type "list", dict := odict, data := .seq items nl, slots := oslots } := Heap.get?_push_of_some _ hol
    have hsls := F.sub_list_set
    have hslf := F.sub_list_frozenset
    have hne : (Value.type "list" == Value.type "dict") = false := by decide
    have hl1 : (s.heap.push (obj0 w)).IsList l items := ⟨_, hol', rfl, nl, rfl⟩
    unfold Builtin.«set.__init__» noKeywords Builtin.Frozenset.updateFrom
    generalize hPI : pyIter = PI
    wp_walk
    subst hPI
    refine wpAny_pyIter_list hl1 ?_
    refine wpAny_bind (wpAny_runValue ?_)
    have hlS : l < s.heap.objs.size := Heap.lt_size hol
    have hz : (s.heap.push (obj0 w)).objs.size = s.heap.objs.size + 1 := Heap.size_push ..
    have hneI : l ≠ (s.heap.push (obj0 w)).objs.size := by
      rw [hz]
      exact Nat.ne_of_lt (Nat.lt_succ_of_lt hlS)
    have hSf : s.heap.objs.size ∉ [(s.heap.push (obj0 w)).objs.size, l] := by
      rw [hz]
      simp only [List.mem_cons, List.not_mem_nil, or_false, not_or]
      exact ⟨Nat.ne_of_lt (Nat.lt_succ_self _), Nat.ne_of_gt hlS⟩
    have hsz : items.size = xs.length := by rw [← StrsAre.len_eq hi, Array.length_toList]
    have WL := ((Walks.list (prog := P) (w := w) (A := A.in1.in1.in1) (by simp [hh]) _ l hneI items).mono_item (P' := fun i v => ∃ t, v = Value.str (xs.getD i Str.empty) t) fun i v _ hv => SS.strs_at hi i v (by rw [Array.getElem?_toList]; exact hv)).toS
    rw [hsz] at WL
    refine set_loop WL s.heap.objs.size hSf xs 0 [] _ rfl (Nat.zero_le _) (by simpa using hb) ⟨⟨_, Heap.get?_push_size _ rfl, rfl, rfl⟩, hl1.push _⟩ (sat0 (Heap.get?_push_of_some _ hS)) fun s' hm hS' => ?_
    obtain ⟨h', g', d', tk', os'⟩ := s'
    have eg : g' = s.gens := hm.gens
    have ed : d' = s.drawn := hm.drawn
    have eo : os' = s.os := hm.os
    subst eg; subst ed; subst eo
    show wpAny _ _ _ _ _ _
    refine wpAny_pure ?_
    show wpAny _ _ (ret Value.none) _ _ _
    refine wpAny_pure ⟨rfl, h', tk', rfl, hS', fun b o e => ?_⟩
    have hlt := Heap.lt_size e
    refine hm.heap b o ?_ (Heap.get?_push_of_some _ (Heap.get?_push_of_some _ e))
    rw [hz]
    simp only [List.mem_cons, List.not_mem_nil, or_false, not_or]
    exact ⟨Nat.ne_of_lt hlt, Nat.ne_of_lt (Nat.lt_succ_of_lt hlt)⟩
  · rcases r₂ with e | fl₂
    · exact hr₂
    cases fl₂ with
    | next => exact hr₂.elim
    | brk => exact hr₂.elim
    | cont => exact hr₂.elim
    | ret r =>
      obtain ⟨rfl, h', tk, rfl, hS', hk'⟩ := hr₂
      repeat (any_goals (first | assumption | wp_step))
      exact h _ _ hS' hk'
end
end DL

set_option Elab.async false
set_option linter.all false
set_option maxRecDepth 100000
set_option maxHeartbeats 2000000
/-! DLMore: sorted(set(..)), list(..), tuple(..), isinstance, unpacking, dict comprehensions, try. -/
namespace DL
open PySem L2
open PyProof.Rows hiding St

/-! ### sorted(set(list of texts)) -/
def SetSO (w : World) (a : Addr) (l : List Str) : HO := .ext fun h => SAt w h a l
theorem setSO_new {P : Program} {w : World} {H : Hp} {h : Heap} {a : Addr} {l : List Str} (R : SAt w h a l) : ObjOk P w H h a (SetSO w a l) := by
  have ⟨D, ho, _⟩ := R
  exact ⟨R, ⟨_, ho⟩, fun h1 h2 ⟨D, p, q⟩ k => ⟨D, k _ p, q⟩⟩
def leS : Str → Str → Bool := PySem.W.dataLe false PyData.str
def sortS (l : List Str) : List Str := l.mergeSort leS
theorem leS_eq (a b : Str) : leS a b = decide (a.cps.toList ≤ b.cps.toList) := congrFun (congrFun (PySem.W.dataLe_str (fun x : Str => x)) a) b
theorem str_of_list {a b : Str} (h : a.cps.toList = b.cps.toList) : a = b := by
  cases a; cases b
  exact congrArg Str.mk (Array.toList_inj.mp h)
theorem leS_trans (a b c : Str) (h1 : leS a b = true) (h2 : leS b c = true) : leS a c = true := by
  rw [leS_eq, decide_eq_true_eq] at *
  exact List.le_trans h1 h2
theorem leS_total (a b : Str) : (leS a b || leS b a) = true := by
  rw [leS_eq, leS_eq, Bool.or_eq_true, decide_eq_true_eq, decide_eq_true_eq]
  exact List.le_total _ _
theorem leS_anti (a b : Str) (h1 : leS a b = true) (h2 : leS b a = true) : a = b := by
  rw [leS_eq, decide_eq_true_eq] at *
  exact str_of_list (List.le_antisymm h1 h2)
theorem sortS_perm {l l' : List Str} (p : l.Perm l') : sortS l = sortS l' := by
  refine List.Perm.eq_of_pairwise (le := fun a b => leS a b = true) (fun a b _ _ => leS_anti a b) ?_ ?_ ?_
  · exact List.pairwise_mergeSort leS_trans leS_total l
  · exact List.pairwise_mergeSort leS_trans leS_total l'
  · exact (List.mergeSort_perm l _).trans (p.trans (List.mergeSort_perm l' _).symm)
section
variable {X : Cx}
def rSetS (w : World) (K : PySem.W.Frag) : List V → Hp → VK → Prop := fun xs H Q => ∃ (l : Addr) (ks : List Str), xs = [.ref l] ∧ SqL K H l (ks.map V.str) ∧ ks.length < scanBound ∧ ∀ p, H p = none → Q (.ref p) (upd H p (SetSO w p (ddS [] ks)))
theorem cr_setS (hc : X.calm = true) : CallR X (.type "set") (rSetS X.w X.K) := by
  intro pins s σ H xs us Q I r h
  obtain ⟨l, ks, rfl, hl, hb, q⟩ := h
  rw [Vals.ref1 r]
  obtain ⟨its, rv, ⟨o, n, ho, hcl, _, hd⟩, hz⟩ := I.list hl
  refine set_list (items := its.toArray) (xs := ks) (I.ok.hd hc) ⟨o, ho, hcl, n, hd⟩ (by simpa using rv.strs) hb fun h' tk sa k => ?_
  exact ⟨.ref s.heap.objs.size, upd H s.heap.objs.size (SetSO X.w s.heap.objs.size (ddS [] ks)), I.laid (t' := tk) k (Nat.le_refl _) (setSO_new sa), rfl, q _ (I.hok.fresh (Nat.le_refl _))⟩
def rSortSetS (w : World) : List V → Hp → VK → Prop := fun xs H Q => ∃ (a : Addr) (l : List Str), xs = [.ref a] ∧ H a = some (SetSO w a l) ∧ l.length < scanBound ∧ ∀ p, H p = none → Q (.ref p) (upd H p (.lst ((sortS l).map V.str)))
theorem alike_strs (l : List Str) : PySem.W.AllAlike (l.map PyData.str) := fun d hd d' hd' => by
  obtain ⟨a, _, rfl⟩ := List.mem_map.mp hd
  obtain ⟨b, _, rfl⟩ := List.mem_map.mp hd'
  rfl
theorem sortable_strs (l : List Str) : PySem.W.Sortable (l.map PyData.str) := .inr fun d hd => by
  obtain ⟨a, _, rfl⟩ := List.mem_map.mp hd
  exact ⟨(fun z => nomatch z), fun xs z => nomatch z⟩
theorem scan_size : scanBound ≤ sizeLine := by decide
theorem cr_sortSetS (hc : X.calm = true) (hu : X.A.units + 64 < cLine) : CallR X (.builtin "sorted") (rSortSetS X.w) := by
  intro pins s σ H xs us Q I r h
  obtain ⟨a, l, rfl, ha, hb, q⟩ := h
  rw [Vals.ref1 r]
  obtain ⟨D, ho, ok⟩ := (I.hok a _ ha).1
  refine sorted_col (H := H) (β := Str) hu fun R E k => ?_
  have hsz : D.1.size < scanBound := by rw [ok.sz]; exact hb
  refine collect_set (P := X.prog) (es := D.1) (ep := D.2.1) (t := D.2.2) (I.ok.hd hc) ⟨_, ho, rfl, rfl⟩ ok.fit hsz ok.ris ok.led fun s' out k1 hs g o pm => ?_
  have J : Inv X pins σ H { s with heap := s'.heap, gens := s'.gens, drawn := s'.drawn, toks := s'.toks } := I.call (ch := []) (Un.kept k1) (I.hok.kept k1) (by rw [g]; exact I.bare) (fun _ z => nomatch z)
  have e : s' = { s with heap := s'.heap, gens := s'.gens, drawn := s'.drawn, toks := s'.toks } := by
    cases s'
    cases s
    cases o
    rfl
  have hk : ∀ v ∈ out, ∃ t, v = Value.str (keyS (0, v)) t := fun v hv => by
    obtain ⟨en, he, rfl⟩ := List.mem_map.mp (pm.mem_iff.mp hv)
    obtain ⟨k, tk, rfl⟩ := ok.good en he
    exact ⟨tk, rfl⟩
  have pl : (out.map fun v => keyS (0, v)).Perm l := by
    have q := pm.map fun v => keyS (0, v)
    rw [List.map_map] at q
    exact q.trans ok.perm
  have rv : Vals ((out.map fun v => keyS (0, v)).map V.str) out := by
    clear q pm pl k J e
    induction out with
    | nil => exact .nil
    | cons v vs ih =>
      obtain ⟨t, ev⟩ := hk v (List.mem_cons_self ..)
      exact .cons ⟨t, ev⟩ (ih fun u hu => hk u (List.mem_cons_of_mem _ hu))
  have hlen : (out.map fun v => keyS (0, v)).length < scanBound := by rw [pl.length_eq]; exact hb
  rw [e]
  refine k _ out (out.map fun v => keyS (0, v)) V.str PyData.str J rv ⟨fun z _ => .str z, alike_strs _, sortable_strs _, ?_, fun z _ => Nat.zero_le _⟩ fun p hp => ?_
  · have := scan_size
    omega
  · have q2 := q p hp
    rw [← sortS_perm pl] at q2
    exact q2
/-- sorted(set(e)), e a list of texts -/
def dSortSet (te : DTE) : DTE := fun ρ M Q => te ρ M fun x M1 => ∃ ks : List Str, viewL M1 x = some (ks.map D.str) ∧ ks.length < scanBound ∧ Q (.lst ((sortS (ddS [] ks)).map D.str)) M1
theorem de_sortSet {e : Expr} {te : DTE} {p1 p2 p3 p4 : Pos} (hc : X.calm = true) (hu : X.A.units + 64 < cLine) (hg : Gl X "sorted") (hm : X.mg "sorted" = none) (hg2 : Gl X "set") (hm2 : X.mg "set" = none) (he : DE X e te)
    (hs : starEach [e] X.env = [(false, eval e X.env)] := by rfl) : DE X (.Call (.Name "sorted" p1) [.Call (.Name "set" p2) [e] [] p3] [] p4) (dSortSet te) := by
  refine peM (pe_callB (id := "sorted") (cr_sortSetS hc hu) hg hm rfl (pa_cons (pe_callTy (T := "set") (cr_setS hc) hg2 hm2 rfl (pa_cons he pa_nil hs) (he := hs)) pa_nil)) fun σ H Q ⟨w, ρ, M, Q', R, h, kk⟩ => ?_
  refine ⟨w, ρ, M, _, R, h, fun x M1 h1 w1 v1 H1 l1 R1 r1 => ?_⟩
  obtain ⟨ks, ex, hb, q⟩ := h1
  obtain ⟨a, vs, rfl, g, rl⟩ := viewL_at R1.m r1 ex
  rw [rel_strs rl] at g
  refine ⟨a, ks, rfl, g, hb, fun p hp => ?_⟩
  have hlen : (ddS [] ks).length < scanBound := Nat.lt_of_le_of_lt (ddS_len ks []) (by simpa using hb)
  refine ⟨p, ddS [] ks, rfl, by simp [upd], hlen, fun p2 hp2 => ?_⟩
  have R2 := R1.froz (o := SetSO X.w p (ddS [] ks)) hp
  refine kk _ M1 q _ _ _ (l1.trans ((Wd.froz_le (R1.m.nF hp)).trans (Wd.froz_le (R2.m.nF hp2)))) (R2.froz hp2) (frozL R2.m (strs_rel _) hp2)

/-! ### list(..), tuple(..) -/
/-- what list() and tuple() take: a text, a list, a tuple -/
def itemsD (M : Store) (x : D) : Option (List D) := match x with
  | .str z => if z.length ≤ sizeLine then some ((signs z).map D.str) else none
  | x => viewS M x
def listR : DRC := fun xs M Q => match xs with
  | [x] => match itemsD M x with | some ds => Q (.lst ds) M | none => False
  | _ => False
/-- the list may be written to -/
def listRM : DRC := fun xs M Q => match xs with
  | [x] => match itemsD M x with | some ds => Q (.ref M.length) (M ++ [.lst ds]) | none => False
  | _ => False
abbrev rListV (K : PySem.W.Frag) : List V → Hp → VK → Prop := fun xs H Q => (∃ x, xs = [.str x] ∧ x.length ≤ sizeLine ∧ ∀ p, H p = none → Q (.ref p) (upd H p (.lst ((signs x).map V.str)))) ∨
  ∃ p ys, xs = [.ref p] ∧ (SqL K H p ys ∨ SqT K H p ys) ∧ ∀ l, H l = none → Q (.ref l) (upd H l (.lst ys))
theorem listV_of {w : Wd} {M : Store} {H : Hp} {x : D} {v : V} {ds : List D} {Q : VK} (R : RM (bgX X) w M H) (r : Rel (bgX X) w x v) (e : itemsD M x = some ds) (q : ∀ vs p, RelL (bgX X) w ds vs → H p = none → Q (.ref p) (upd H p (.lst vs))) : rListV X.K [v] H Q := by
  unfold itemsD at e
  split at e
  · rename_i z
    cases r
    split at e
    · rename_i hz
      cases e
      exact .inl ⟨z, rfl, hz, fun p hp => q _ p (strs_rel _) hp⟩
    · cases e
  · obtain ⟨a, vs, rfl, g, rl⟩ := viewS_at R r e
    exact .inr ⟨a, vs, rfl, g, fun p hp => q vs p rl hp⟩
theorem cx_list (hc : X.calm = true) : CallX X (.type "list") listR := .of (.or (call_list_text hc) call_list_of) fun w M H xs vs Q' Q R r h k => by
  unfold listR at h
  split at h
  · rename_i x
    obtain ⟨v, rfl, rx⟩ := r.one
    split at h
    · rename_i ds e
      exact listV_of R rx e fun vs p rl hp => k _ M h _ _ _ (Wd.froz_le (R.nF hp)) (R.froz hp) (frozL R rl hp)
    · exact h.elim
  · exact h.elim
theorem cx_listM (hc : X.calm = true) : CallX X (.type "list") listRM := .of (.or (call_list_text hc) call_list_of) fun w M H xs vs Q' Q R r h k => by
  unfold listRM at h
  split at h
  · rename_i x
    obtain ⟨v, rfl, rx⟩ := r.one
    split at h
    · rename_i ds e
      exact listV_of R rx e fun vs p rl hp => k _ _ h _ _ _ Wd.put_le (R.put hp (.lst (rl.mono Wd.put_le))) (putR R)
    · exact h.elim
  · exact h.elim
def tupleR : DRC := fun xs M Q => match xs with
  | [x] => match viewS M x with | some ds => Q (.tup ds) M | none => False
  | _ => False
theorem cx_tuple : CallX X (.type "tuple") tupleR := .of call_tuple_of fun w M H xs vs Q' Q R r h k => by
  unfold tupleR at h
  split at h
  · rename_i x
    obtain ⟨v, rfl, rx⟩ := r.one
    split at h
    · rename_i ds e
      have tupq : ∀ a us, v = .ref a → SqT X.K H a us → x = .tup ds → ∃ p ys, [v] = [V.ref p] ∧ ((SqL X.K H p ys ∧ ∀ l, H l = none → Q (.ref l) (upd H l (.tup ys))) ∨ (SqT X.K H p ys ∧ Q (.ref p) H)) := fun a us ev g ex => by
        subst ev ex
        exact ⟨a, us, rfl, .inr ⟨g, k _ M h w _ H (Wd.Le.refl w) R rx⟩⟩
      have lst : ∀ {ds'}, viewL M x = some ds' → ds' = ds → ∃ p ys, [v] = [V.ref p] ∧ ((SqL X.K H p ys ∧ ∀ l, H l = none → Q (.ref l) (upd H l (.tup ys))) ∨ (SqT X.K H p ys ∧ Q (.ref p) H)) := fun {ds'} e1 e2 => by
        subst e2
        obtain ⟨a, us, rfl, g, rl⟩ := viewL_at R rx e1
        exact ⟨a, us, rfl, .inl ⟨g, fun p hp => k _ M h _ _ _ (Wd.froz_le (R.nF hp)) (R.froz hp) (frozT R rl hp)⟩⟩
      cases x with
      | tup es =>
        cases e
        cases rx with
        | tup g l q => exact tupq _ _ rfl (sqT_mono (K := X.K) R.sub g) rfl
      | lst es =>
        cases e
        exact lst rfl rfl
      | ref n => exact lst (by unfold viewS at e; unfold viewL; exact e) rfl
      | _ => cases e
    · exact h.elim
  · exact h.elim

/-! ### unpacking a list or a tuple -/
def dgSeq (n : Nat) (t : DTGs) : DTG := fun d ρ M Q => match viewS M d with | some ds => ds.length = n ∧ t ds ρ M Q | none => False
theorem pgOr {e : Expr} {t t' : TG} (h : PG X e t) (h' : PG X e t') : PG X e (fun v σ H Q => t v σ H Q ∨ t' v σ H Q) := ⟨fun pins s σ H v u Q I r q => q.elim (h.run pins s σ H v u Q I r) (h'.run pins s σ H v u Q I r)⟩
theorem dg_seq {es : List Expr} {k n : Nat} {tg : DTGs} {pos : Pos} (hc : X.calm = true) (h : DGs X es tg) (hn : (assignEach es X.env).length = n := by rfl) (hst : (assignEach es X.env).findIdx? (·.1) = none := by rfl) : DG X (.Tuple es k pos) (dgSeq n tg) := by
  refine pgM (pgOr (pg_tup hc h hn hst) (pg_unl hc h hn hst)) fun v σ H Q ⟨w, ρ, M, d, Q', R, r, h, kk⟩ => ?_
  unfold dgSeq at h
  split at h
  · rename_i ds e
    obtain ⟨a, vs, rfl, g, rl⟩ := viewS_at R.m r e
    rcases g with g | g
    · exact .inr ⟨a, vs, rfl, g, rl.1.symm.trans h.1, w, ρ, M, ds, Q', R, rl, h.2, kk⟩
    · exact .inl ⟨a, vs, rfl, g, rl.1.symm.trans h.1, w, ρ, M, ds, Q', R, rl, h.2, kk⟩
  · exact h.elim
end
end DL

set_option Elab.async false
set_option linter.all false
set_option maxRecDepth 100000
set_option maxHeartbeats 2000000
/-! DLTry: isinstance, dict comprehensions, try whose body raises nothing. -/
namespace DL
open PySem L2
open PyProof.Rows hiding St

/-! ### isinstance -/
def plainTy : List String := ["NoneType", "bool", "int", "str", "list", "tuple", "dict"]
def isTy (a b : String) : Bool := decide (a = b) || (decide (a = "bool") && decide (b = "int"))
theorem isTy_kit {a b : String} (ha : a ∈ plainTy) (hb : b ∈ plainTy) : kitB a b = some (isTy a b) := by
  have h : ∀ a ∈ plainTy, ∀ b ∈ plainTy, kitB a b = some (isTy a b) := by decide +kernel
  exact h a ha b hb
/-- the type of what isinstance may be asked of -/
def tyI (M : Store) : D → Option String
  | .non => some "NoneType"
  | .bl _ => some "bool"
  | .int _ => some "int"
  | .str _ => some "str"
  | .tup _ => some "tuple"
  | .lst _ => some "list"
  | .dk _ => some "dict"
  | .ref n => match M[n]? with
    | some (.lst _) => some "list"
    | some (.dk _) => some "dict"
    | _ => none
  | _ => none
theorem tyI_plain {M : Store} {x : D} {t : String} (h : tyI M x = some t) : t ∈ plainTy := by
  unfold tyI at h
  split at h
  all_goals first
    | (cases h; decide)
    | skip
  split at h
  all_goals first
    | (cases h; decide)
    | cases h
theorem tyx_seqT {K : PySem.W.Frag} {H : Hp} {a : Addr} {xs : List V} (g : SqT K H a xs) : TyX K H (.ref a) (.type "tuple") := by
  rcases g with (e | ⟨o, e⟩) | ⟨o, its, n, hk, hc, _⟩
  · exact .base (.tup e)
  · exact .fTuple e
  · exact .kTuple hk hc
theorem tyx_seqL {K : PySem.W.Frag} {H : Hp} {a : Addr} {xs : List V} (g : SqL K H a xs) : TyX K H (.ref a) (.type "list") := by
  rcases g with (e | ⟨o, e⟩) | ⟨o, its, n, hk, hc, _⟩
  · exact .base (.lst e)
  · exact .base (.frz e)
  · exact .kList hk hc
theorem tyI_x {b : Bg} {w : Wd} {M : Store} {H : Hp} {x : D} {v : V} {t : String} (R : RM b w M H) (r : Rel b w x v) (h : tyI M x = some t) : TyX b.K H v (.type t) := by
  cases r with
  | non => cases h; exact .base .non
  | bl c => cases h; exact .base (.bl _)
  | int i => cases h; exact .base (.int _)
  | str z => cases h; exact .base (.str _)
  | tup g l q => cases h; exact tyx_seqT (sqT_mono R.sub g)
  | lst g l q => cases h; exact tyx_seqL (sqL_mono R.sub g)
  | dk e k q =>
    cases h
    rcases rd_mono R.sub e with e | ⟨o, e⟩
    · exact .base (.dK e)
    · exact .fDict e
  | dn e k q1 q2 q3 => cases h
  | ty n => cases h
  | ref ea =>
    simp only [tyI] at h
    split at h
    · rename_i ds en
      cases h
      obtain ⟨_, u, eu, c⟩ := R.cell _ _ _ ea en
      cases c with
      | lst rr => exact .base (.lst eu)
    · rename_i ds en
      cases h
      obtain ⟨_, u, eu, c⟩ := R.cell _ _ _ ea en
      cases c with
      | dk rr => exact .base (.dK eu)
    · cases h
def isiR : DRC := fun xs M Q => match xs with
  | [x, .ty c] => (c ∈ plainTy) ∧ match tyI M x with | some t => Q (.bl (isTy t c)) M | none => False
  | _ => False
section
variable {X : Cx}
theorem cx_isi : CallX X (.builtin "isinstance") isiR := .of call_isi fun w M H xs vs Q' Q R r h k => by
  unfold isiR at h
  split at h
  · rename_i x c
    obtain ⟨v, u, rfl, r1, r2⟩ := r.two
    cases r2
    obtain ⟨hc, h⟩ := h
    split at h
    · rename_i t et
      exact ⟨v, .ty c, .type t, .type c, isTy t c, rfl, .ty c, tyI_x R r1 et, kit_ty (isTy_kit (tyI_plain et) hc), k _ M h w _ H (Wd.Le.refl w) R (.bl _)⟩
    · exact h.elim
  · exact h.elim
theorem de_ty {x : Str} {t : String} {pos : Pos} (hg : Gl X x) (hm : X.mg x = none) (hv : bootBuiltins x = some (.type t)) (hn : x ≠ "__name__" := by decide) (hd : (x == ("__debug__" : Str)) = false := by decide) : DE X (.Name x pos) (dC (.ty t)) :=
  de_C (pe_bltn (v := .ty t) hg hm hv rfl hn hd) fun _ => .ty t

/-! ### try -/
theorem ds_try {x : Str} {c : Value} {body suite : List Stmt} {b₀ : Stmt} {np pos pos' : Pos} {t : DTS} (hs : X.stack = X.env :: X.outer) (hf : X.env.frame = some X.env.locals) (hc : Names X x c)
    (hb : ∀ (pn : List (Addr × Obj)) (xe : Value → Shared → Prop), PassesOwn (model X.prog X.w) X.A X.env xe → DSs (X.tr pn xe) body t) :
    DS X (.Try body [.ExceptHandler (some (.Name x np)) none (b₀ :: suite) pos'] [] [] pos) t :=
  psM (ps_try_only (tb := fun _ => upS (bgX X) t) (ts := fun _ _ _ => tNever) (Wout := fun _ _ _ _ => False) hs hf hc takes0 (fun W pn xe _ hp => hb pn xe hp) (fun a oe cls d pn _ _ => pss_never)) fun D σ H h => h

/-! ### dict comprehensions, keys ints or texts: a new cell -/
def dcGo (sh : Shape) (vs : List Nat) (keep : Store → Prop) (tt : DTT) (tk tv : DTE) (ρ : Env') : List D → Store → List (Key × D) → (List (Key × D) → Store → Prop) → Prop
  | [], M, acc, Q => keep M ∧ Q acc M
  | x :: xs, M, acc, Q => keep M ∧ match sh.bind x (dwipe ρ vs) with
    | some ρ2 => tt ρ2 M fun c M3 => if c = true then tk ρ2 M3 fun y M4 => tv ρ2 M4 fun z M5 => match dkey y with
        | some k => acc.length < sizeLine ∧ dcGo sh vs keep tt tk tv ρ xs M5 (aPut acc k z) Q
        | none => False
      else dcGo sh vs keep tt tk tv ρ xs M3 acc Q
    | none => False
theorem dcGo_keep {sh : Shape} {vs : List Nat} {keep : Store → Prop} {tt : DTT} {tk tv : DTE} {ρ : Env'} {xs : List D} {M : Store} {acc : List (Key × D)} {Q : List (Key × D) → Store → Prop} (h : dcGo sh vs keep tt tk tv ρ xs M acc Q) : keep M := by
  cases xs with
  | nil => exact h.1
  | cons x xs => exact h.1
def dDc (src : DTI) (sh : Shape) (tt : DTT) (tk tv : DTE) (vs : List Nat) : DTE := fun ρ M Q => src ρ M fun items keep M1 => dcGo sh vs keep tt tk tv ρ items M1 [] fun acc M2 => Q (.ref M2.length) (M2 ++ [.dk acc])
/-- the entries of two dicts go together -/
def RelK (b : Bg) (w : Wd) (ds : List (Key × D)) (vs : List (Key × V)) : Prop := ds.map (·.1) = vs.map (·.1) ∧ ∀ (i : Nat) (d : Key × D) (v : Key × V), ds[i]? = some d → vs[i]? = some v → Rel b w d.2 v.2
theorem RelK.mono0 {b : Bg} {w w' : Wd} (h : w.Le0 w') {ds : List (Key × D)} {vs : List (Key × V)} (r : RelK b w ds vs) : RelK b w' ds vs := ⟨r.1, fun i d v e1 e2 => (r.2 i d v e1 e2).mono0 h⟩
theorem RelK.put {b : Bg} {w : Wd} {ds : List (Key × D)} {vs : List (Key × V)} (r : RelK b w ds vs) (k : Key) {d : D} {v : V} (q : Rel b w d v) : RelK b w (aPut ds k d) (putK vs k v) := by
  rw [putK_eq]
  exact aPut_rel (R := Rel b w) r.1 r.2 k q
variable {kx vx tg iter : Expr} {ifs : List Expr} {scope : Scope} {own : List (Str × Nat)} {pos : Pos} {src : DTI} {sh : Shape} {tt : DTT} {tk tv : DTE}
theorem up_dc (hv : ∀ i ∈ sh.slots, i ∈ own.map (·.2)) {σ : St} {H : Hp} {Q : VK} (h : upE (bgX X) (dDc src sh tt tk tv (own.map (·.2))) σ H Q) : tDc (upI (bgX X) src) (sh.g X.K) (upT (bgX X) tt) (upE (bgX X) tk) (upE (bgX X) tv) (own.map (·.2)) σ H Q := by
  obtain ⟨w, ρ, M, Q', R, h, k⟩ := h
  refine ⟨w, ρ, M, _, R, h, fun items keep M1 h1 w1 J H1 l1 R1 jk D hD => ?_⟩
  have hfr := R1.m.nfr hD
  let W := fun (i : Nat) (H : Hp) => ∃ (w2 : Wd) (M2 : Store) (acc : List (Key × DL.D)) (accV : List (Key × V)), w1.Le0 w2 ∧ w2.fr = (D, .dK accV) :: w1.fr ∧ RM (bgX X) w2 M2 H ∧ RelK (bgX X) w2 acc accV ∧
    dcGo sh (own.map (·.2)) keep tt tk tv ρ (items.drop i) M2 acc (fun acc M2 => Q' (.ref M2.length) (M2 ++ [.dk acc]))
  refine ⟨fun i m H => m = items.length - i ∧ i ≤ items.length ∧ W i H, ⟨items.length, by simp, Nat.zero_le _, w1.hold D (.dK []), M1, [], [], ⟨fun _ _ h => h, List.prefix_rfl⟩, rfl, R1.m.hold hD, ⟨rfl, fun i d v e => by simp at e⟩, by simpa using h1⟩, ?_⟩
  rintro i m H2 ⟨rfl, hi, w2, M2, acc, accV, l2, ef, R2, ra, q2⟩
  obtain ⟨turns, stop⟩ := jk w2 M2 H2 l2 R2 (dcGo_keep q2)
  by_cases hlt : i < items.length
  · have ed : items.drop i = items[i] :: items.drop (i + 1) := List.drop_eq_getElem_cons hlt
    rw [ed] at q2
    obtain ⟨kp, q2⟩ := q2
    obtain ⟨go, yl⟩ := turns i items[i] (List.getElem?_eq_getElem hlt)
    refine .inr ⟨go, W (i + 1), fun H' q => ⟨items.length - (i + 1), by omega, rfl, hlt, q⟩, fun x H3 y => ?_⟩
    obtain ⟨w3, l3, R3, r3⟩ := yl x H3 y
    split at q2
    · rename_i ρ2 hb
      have e3 : EnvR (bgX X) w3 (dwipe ρ (own.map (·.2))) (wipe σ (own.map (·.2))) := (R1.e.mono0 (l2.trans l3.le0)).wipe _
      refine shape_ok (b := bgX X) hv R3 r3 e3 hb fun σ3 e4 hw => ?_
      refine ⟨hw.trans wipe_wipe |>.trans rfl, ?_⟩
      refine ⟨w3, ρ2, M2, _, ⟨R3, e4⟩, q2, fun c M4 h4 w4 H4 l4 R4 => ?_⟩
      cases c with
      | false =>
        rw [if_neg Bool.false_ne_true] at h4 ⊢
        exact ⟨w4, M4, acc, accV, (l2.trans l3.le0).trans l4.le0, (l4.fr.trans l3.fr).trans ef, R4.m, ra.mono0 (l3.trans l4).le0, h4⟩
      | true =>
        rw [if_pos rfl] at h4 ⊢
        refine ⟨w4, ρ2, M4, _, R4, h4, fun y5 M5 h5 w5 v5 H5 l5 R5 r5 => ?_⟩
        refine ⟨w5, ρ2, M5, _, R5, h5, fun z M6 h6 w6 v6 H6 l6 R6 r6 => ?_⟩
        have ef6 : w6.fr = (D, .dK accV) :: w1.fr := (((l6.fr.trans l5.fr).trans l4.fr).trans l3.fr).trans ef
        obtain ⟨eD, _, _⟩ := R6.m.fr (D, .dK accV) (by rw [ef6]; simp)
        have l26 := (((l3.trans l4).trans l5).trans l6).le0
        have ra6 := ra.mono0 l26
        split at h6
        · rename_i kk ek
          refine ⟨accV, kk, dkey_v ek r5, eD, ?_, ⟨w6.F, w6.as, (D, .dK (putK accV kk v6)) :: w1.fr⟩, M6, aPut acc kk z, putK accV kk v6, ?_, rfl, R6.m.rehold ef6 hfr, ?_, h6.2⟩
          · have e1 := congrArg List.length ra6.1
            rw [List.length_map, List.length_map] at e1
            rw [← e1]
            exact h6.1
          · have := l2.trans l26
            exact ⟨this.F, this.as⟩
          · have le : w6.Le0 ⟨w6.F, w6.as, (D, .dK (putK accV kk v6)) :: w1.fr⟩ := ⟨fun _ _ h => h, List.prefix_rfl⟩
            exact (ra6.put kk r6).mono0 le
        · exact h6.elim
    · exact q2.elim
  · have e : i = items.length := by omega
    subst e
    rw [List.drop_length] at q2
    refine .inl ⟨stop, ?_⟩
    have le : w2.Le0 ⟨w2.F, w2.as ++ [D], w1.fr⟩ := ⟨fun _ _ h => h, List.prefix_append _ _⟩
    have rr := ra.mono0 le
    have l3 := l2.trans le
    refine k _ _ q2.2 ⟨w2.F, w2.as ++ [D], w1.fr⟩ _ H2 (l1.trans ⟨l3.F, l3.as, rfl⟩) ⟨R2.unholdM ef hfr (.dk rr.1 rr.2), R1.e.mono0 l3⟩ (.ref ?_)
    show (w2.as ++ [D])[M2.length]? = some D
    rw [← R2.len, List.getElem?_append_right (Nat.le_refl _)]
    simp
theorem de_dc (hc : X.calm = true) (hN : X.N.Nodup) (hi : DI X tg iter src) (ok : BlkOk X.N X.env.scope scope own) (hv : ∀ i ∈ sh.slots, i ∈ own.map (·.2))
    (hg : ∀ (s : Shared) (H : Hp) (C : Addr) (cl : List (Str × Addr)) (fp : List Addr), PG (X.blk s H scope (compEnvC scope cl C X.env) fp) tg (sh.g X.K)) (ht : ∀ (s : Shared) (H : Hp) (C : Addr) (cl : List (Str × Addr)) (fp : List Addr), DTs (X.blk s H scope (compEnvC scope cl C X.env) fp) ifs tt)
    (hk : ∀ (s : Shared) (H : Hp) (C : Addr) (cl : List (Str × Addr)) (fp : List Addr), DE (X.blk s H scope (compEnvC scope cl C X.env) fp) kx tk)
    (he : ∀ (s : Shared) (H : Hp) (C : Addr) (cl : List (Str × Addr)) (fp : List Addr), DE (X.blk s H scope (compEnvC scope cl C X.env) fp) vx tv) (hs : ∀ x, foldedSetIterable iter X.env x = pure x := by intro _; rfl) :
    DE X (.DictComp kx vx [⟨tg, iter, ifs, 0⟩] scope pos) (dDc src sh tt tk tv (own.map (·.2))) :=
  peM (pe_dc hc hN hi ok hg ht hk he hs) fun σ H Q h => up_dc hv h
end
end DL

set_option Elab.async false
set_option linter.all false
set_option maxRecDepth 100000
set_option maxHeartbeats 2000000
/-! DLAsg: name = [..], name = {..} on one line. -/
namespace DL
open PySem L2
open PyProof.Rows hiding St
section
variable {X : Cx} {i : Nat} {y : Str} {py : Pos} {elt kx vx tg iter : Expr} {ifs : List Expr} {scope : Scope} {own : List (Str × Nat)} {pos spos : Pos} {src : DTI} {sh : Shape} {tt : DTT} {te tk tv : DTE}
theorem sw_dict {l : Nat} {env : Env} {gs : List Comprehension} (hk : env.scope.kind = .function) (hy : env.scope.names.lookup y = some .local) (hl : (py.line == pos.line) = true)
    (ha : (scope.names.any fun (n, k) => n == y && (k == .local || k == .cell)) = false) : swapsWith (.DictComp kx vx gs scope pos) (some (.Name y py)) l env = pure true := by
  have ky : env.kindOf y = some .local := hy
  have hb : env.blockKind = .function := by
    unfold Env.blockKind
    rw [hk]
    rfl
  unfold swapsWith
  simp only [hb, ky, ha, Expr.pos, hl]
  rfl
theorem ps_setDc {wi : TI} {g : TG} {tt : TT} {tk tv : TE} (hc : X.calm = true) (hN : X.N.Nodup) (hy : X.N[i]? = some y) (hyl : X.env.scope.names.lookup y = some .local)
    (hsw : swapsWith (.DictComp kx vx [⟨tg, iter, ifs, 0⟩] scope pos) (some (.Name y py)) spos.line X.env = pure true) (hi : PI X tg iter wi) (ok : BlkOk X.N X.env.scope scope own)
    (hg : ∀ (s : Shared) (H : Hp) (C : Addr) (cl : List (Str × Addr)) (fp : List Addr), PG (X.blk s H scope (compEnvC scope cl C X.env) fp) tg g) (ht : ∀ (s : Shared) (H : Hp) (C : Addr) (cl : List (Str × Addr)) (fp : List Addr), PTs (X.blk s H scope (compEnvC scope cl C X.env) fp) ifs tt)
    (hk : ∀ (s : Shared) (H : Hp) (C : Addr) (cl : List (Str × Addr)) (fp : List Addr), PE (X.blk s H scope (compEnvC scope cl C X.env) fp) kx tk)
    (he : ∀ (s : Shared) (H : Hp) (C : Addr) (cl : List (Str × Addr)) (fp : List Addr), PE (X.blk s H scope (compEnvC scope cl C X.env) fp) vx tv) (hs : ∀ x, foldedSetIterable iter X.env x = pure x := by intro _; rfl) :
    PS X (.Assign [.Name y py] (.DictComp kx vx [⟨tg, iter, ifs, 0⟩] scope pos) spos) (tAsg (tDc wi g tt tk tv (own.map (·.2))) (gName i)) := by
  refine ⟨fun pins s σ H D I h => ?_⟩
  rw [exec_Assign_Name_used _ _ _ _ hsw]
  refine wpAny_bind (wpAny_standAt (wpAny_bind ?_))
  show wpAny _ X.A (do let _ ← comprehension (.DictComp kx vx [⟨tg, iter, ifs, 0⟩] scope pos) scope X.env (firstIterPos [⟨tg, iter, ifs, 0⟩] pos) newDict false (eval iter X.env) (some (assign (.Name y py) X.env))) _ _ s
  have h : tDc wi g tt tk tv (own.map (·.2)) σ H (fun x H1 => gName i x σ H1 D.nx) := h
  refine wpAny_bind (thn (dc_core (Qf := fun _ s' => SP X pins D .next s') hc hN I hi ok hg ht hk he hs h fun L C s' m H' I' q hn f => ?_) fun _ s' hq => wpAny_pure (wpAny_pure hq))
  show wpAny _ _ (assign (.Name y py) X.env (.ref L)) _ _ _
  refine wpAny_assign_Name (store_ok2 (v := V.ref L) I' hN hy (.inl hyl) rfl (fun s2 I2 ⟨a, sb, ha⟩ => ?_) (.inr hyl))
  obtain ⟨f0, f1, f2, f3, f4, f5⟩ := f
  have haC : C ≠ a := by
    rcases ha with z | z
    · rw [z]; exact f1
    · exact fun e => f4 y a z e.symm
  refine ⟨m, hn.sameBut sb haC, fun h3 sb3 => ?_⟩
  exact ⟨_, H', I2.turned (t' := s2.toks) (fun b o hb e => (sb3.2 b hb).trans e) f0 f1 f3 f4 f5, q⟩
theorem up_set {te : DTE} {σ : St} {H : Hp} {D : Ends} (h : upS (bgX X) (dAsg te (dgName i)) D σ H) : upE (bgX X) te σ H fun x H1 => gName i x σ H1 D.nx := by
  obtain ⟨w, ρ, M, D', R, h, E⟩ := h
  exact ⟨w, ρ, M, _, R, h, fun d M1 h1 w1 v1 H1 l1 R1 r1 => E.nx _ M1 h1 w1 _ H1 l1 ⟨R1.m, R1.e.set r1⟩⟩
theorem ds_setLc (hc : X.calm = true) (hN : X.N.Nodup) (hy : X.N[i]? = some y) (hyl : X.env.scope.names.lookup y = some .local)
    (hsw : swapsWith (.ListComp elt [⟨tg, iter, ifs, 0⟩] scope pos) (some (.Name y py)) spos.line X.env = pure true) (hi : DI X tg iter src) (ok : BlkOk X.N X.env.scope scope own) (hv : ∀ i ∈ sh.slots, i ∈ own.map (·.2))
    (hg : ∀ (s : Shared) (H : Hp) (C : Addr) (cl : List (Str × Addr)) (fp : List Addr), PG (X.blk s H scope (compEnvC scope cl C X.env) fp) tg (sh.g X.K)) (ht : ∀ (s : Shared) (H : Hp) (C : Addr) (cl : List (Str × Addr)) (fp : List Addr), DTs (X.blk s H scope (compEnvC scope cl C X.env) fp) ifs tt)
    (he : ∀ (s : Shared) (H : Hp) (C : Addr) (cl : List (Str × Addr)) (fp : List Addr), DE (X.blk s H scope (compEnvC scope cl C X.env) fp) elt te) (hs : ∀ x, foldedSetIterable iter X.env x = pure x := by intro _; rfl) :
    DS X (.Assign [.Name y py] (.ListComp elt [⟨tg, iter, ifs, 0⟩] scope pos) spos) (dAsg (dLc src sh tt te (own.map (·.2))) (dgName i)) :=
  psM (ps_setLc hc hN hy hyl hsw hi ok hg ht he hs) fun D σ H h => up_lc (fin := fun acc M Q => Q (.lst acc) M) hv fin_froz (up_set h)
theorem ds_setLcM (hc : X.calm = true) (hN : X.N.Nodup) (hy : X.N[i]? = some y) (hyl : X.env.scope.names.lookup y = some .local)
    (hsw : swapsWith (.ListComp elt [⟨tg, iter, ifs, 0⟩] scope pos) (some (.Name y py)) spos.line X.env = pure true) (hi : DI X tg iter src) (ok : BlkOk X.N X.env.scope scope own) (hv : ∀ i ∈ sh.slots, i ∈ own.map (·.2))
    (hg : ∀ (s : Shared) (H : Hp) (C : Addr) (cl : List (Str × Addr)) (fp : List Addr), PG (X.blk s H scope (compEnvC scope cl C X.env) fp) tg (sh.g X.K)) (ht : ∀ (s : Shared) (H : Hp) (C : Addr) (cl : List (Str × Addr)) (fp : List Addr), DTs (X.blk s H scope (compEnvC scope cl C X.env) fp) ifs tt)
    (he : ∀ (s : Shared) (H : Hp) (C : Addr) (cl : List (Str × Addr)) (fp : List Addr), DE (X.blk s H scope (compEnvC scope cl C X.env) fp) elt te) (hs : ∀ x, foldedSetIterable iter X.env x = pure x := by intro _; rfl) :
    DS X (.Assign [.Name y py] (.ListComp elt [⟨tg, iter, ifs, 0⟩] scope pos) spos) (dAsg (dLcM src sh tt te (own.map (·.2))) (dgName i)) :=
  psM (ps_setLc hc hN hy hyl hsw hi ok hg ht he hs) fun D σ H h => up_lc (fin := fun acc M Q => Q (.ref M.length) (M ++ [MO.lst acc])) hv fin_cell (up_set h)
theorem ds_setDc (hc : X.calm = true) (hN : X.N.Nodup) (hy : X.N[i]? = some y) (hyl : X.env.scope.names.lookup y = some .local)
    (hsw : swapsWith (.DictComp kx vx [⟨tg, iter, ifs, 0⟩] scope pos) (some (.Name y py)) spos.line X.env = pure true) (hi : DI X tg iter src) (ok : BlkOk X.N X.env.scope scope own) (hv : ∀ i ∈ sh.slots, i ∈ own.map (·.2))
    (hg : ∀ (s : Shared) (H : Hp) (C : Addr) (cl : List (Str × Addr)) (fp : List Addr), PG (X.blk s H scope (compEnvC scope cl C X.env) fp) tg (sh.g X.K)) (ht : ∀ (s : Shared) (H : Hp) (C : Addr) (cl : List (Str × Addr)) (fp : List Addr), DTs (X.blk s H scope (compEnvC scope cl C X.env) fp) ifs tt)
    (hk : ∀ (s : Shared) (H : Hp) (C : Addr) (cl : List (Str × Addr)) (fp : List Addr), DE (X.blk s H scope (compEnvC scope cl C X.env) fp) kx tk)
    (he : ∀ (s : Shared) (H : Hp) (C : Addr) (cl : List (Str × Addr)) (fp : List Addr), DE (X.blk s H scope (compEnvC scope cl C X.env) fp) vx tv) (hs : ∀ x, foldedSetIterable iter X.env x = pure x := by intro _; rfl) :
    DS X (.Assign [.Name y py] (.DictComp kx vx [⟨tg, iter, ifs, 0⟩] scope pos) spos) (dAsg (dDc src sh tt tk tv (own.map (·.2))) (dgName i)) :=
  psM (ps_setDc hc hN hy hyl hsw hi ok hg ht hk he hs) fun D σ H h => up_dc hv (up_set h)
end
end DL

set_option Elab.async false
set_option linter.all false
set_option maxRecDepth 100000
set_option maxHeartbeats 2000000
/-! DLDat: what the readings over data come to: loops by invariants, cells of the store, what a def hands back. -/
namespace DL
open PySem L2
open PyProof.Rows hiding St

/-! ### loops -/
theorem forGo_inv {g : DTG} {tb : DTS} {keep : Store → Prop} {E : DEnds} (I : Nat → Env' → Store → Prop) {xs : List DL.D} : ∀ (k i : Nat) (ρ : Env') (M : Store), xs.length = i + k → I i ρ M →
    (∀ (i : Nat) (x : DL.D) (ρ : Env') (M : Store), xs[i]? = some x → I i ρ M → keep M ∧ ∀ (go : Env' → Store → Prop), (∀ ρ' M', I (i + 1) ρ' M' → go ρ' M') → g x ρ M fun ρ2 M2 => tb { E with nx := fun ρ' M' => TurnOk M ρ' M' go, ct := fun ρ' M' => TurnOk M ρ' M' go, bk := E.nx } ρ2 M2) →
    (∀ ρ M, I xs.length ρ M → keep M ∧ E.nx ρ M) → forGo g tb keep E (xs.drop i) ρ M
  | 0, i, ρ, M, hl, h, step, fin => by
    have e : i = xs.length := by omega
    subst e
    rw [List.drop_length]
    exact fin ρ M h
  | k + 1, i, ρ, M, hl, h, step, fin => by
    have hi : i < xs.length := by omega
    rw [List.drop_eq_getElem_cons hi]
    obtain ⟨kp, st⟩ := step i xs[i] ρ M (List.getElem?_eq_getElem hi) h
    exact ⟨kp, st _ fun ρ' M' h' => forGo_inv I k (i + 1) ρ' M' (by omega) h' step fin⟩
/-- for x in xs: by an invariant of the turn's number, the names, the store -/
theorem for_inv {g : DTG} {tb : DTS} {keep : Store → Prop} {E : DEnds} {xs : List DL.D} {ρ : Env'} {M : Store} (I : Nat → Env' → Store → Prop) (h0 : I 0 ρ M)
    (step : ∀ (i : Nat) (x : DL.D) (ρ : Env') (M : Store), xs[i]? = some x → I i ρ M → keep M ∧ ∀ (go : Env' → Store → Prop), (∀ ρ' M', I (i + 1) ρ' M' → go ρ' M') → g x ρ M fun ρ2 M2 => tb { E with nx := fun ρ' M' => TurnOk M ρ' M' go, ct := fun ρ' M' => TurnOk M ρ' M' go, bk := E.nx } ρ2 M2)
    (fin : ∀ ρ M, I xs.length ρ M → keep M ∧ E.nx ρ M) : forGo g tb keep E xs ρ M := forGo_inv I xs.length 0 ρ M (by omega) h0 step fin
theorem lcGo_inv {sh : Shape} {vs : List Nat} {keep : Store → Prop} {tt : DTT} {te : DTE} {ρ : Env'} {Q : List D → Store → Prop} (I : Nat → Store → List D → Prop) {xs : List D} : ∀ (k i : Nat) (M : Store) (acc : List D), xs.length = i + k → I i M acc →
    (∀ (i : Nat) (x : D) (M : Store) (acc : List D), xs[i]? = some x → I i M acc → keep M ∧ ∃ ρ2, sh.bind x (dwipe ρ vs) = some ρ2 ∧ ∀ (go : Store → List D → Prop), (∀ M' acc', I (i + 1) M' acc' → go M' acc') →
      tt ρ2 M fun c M3 => if c = true then te ρ2 M3 fun y M4 => acc.length < sizeLine ∧ go M4 (acc ++ [y]) else go M3 acc) →
    (∀ M acc, I xs.length M acc → keep M ∧ Q acc M) → lcGo sh vs keep tt te ρ (xs.drop i) M acc Q
  | 0, i, M, acc, hl, h, step, fin => by
    have e : i = xs.length := by omega
    subst e
    rw [List.drop_length]
    exact fin M acc h
  | k + 1, i, M, acc, hl, h, step, fin => by
    have hi : i < xs.length := by omega
    rw [List.drop_eq_getElem_cons hi]
    obtain ⟨kp, ρ2, eb, st⟩ := step i xs[i] M acc (List.getElem?_eq_getElem hi) h
    refine ⟨kp, ?_⟩
    rw [eb]
    exact st (fun M' acc' => lcGo sh vs keep tt te ρ (xs.drop (i + 1)) M' acc' Q) fun M' acc' h' => lcGo_inv I k (i + 1) M' acc' (by omega) h' step fin
/-- [e for x in xs if ..] by an invariant of the turn's number, the store, what is made so far -/
theorem lc_inv {sh : Shape} {vs : List Nat} {keep : Store → Prop} {tt : DTT} {te : DTE} {ρ : Env'} {Q : List D → Store → Prop} {xs : List D} {M : Store} (I : Nat → Store → List D → Prop) (h0 : I 0 M [])
    (step : ∀ (i : Nat) (x : D) (M : Store) (acc : List D), xs[i]? = some x → I i M acc → keep M ∧ ∃ ρ2, sh.bind x (dwipe ρ vs) = some ρ2 ∧ ∀ (go : Store → List D → Prop), (∀ M' acc', I (i + 1) M' acc' → go M' acc') →
      tt ρ2 M fun c M3 => if c = true then te ρ2 M3 fun y M4 => acc.length < sizeLine ∧ go M4 (acc ++ [y]) else go M3 acc)
    (fin : ∀ M acc, I xs.length M acc → keep M ∧ Q acc M) : lcGo sh vs keep tt te ρ xs M [] Q := lcGo_inv I xs.length 0 M [] (by omega) h0 step fin
/-- [e for x in xs], nothing else done -/
theorem lc_map {sh : Shape} {vs : List Nat} {keep : Store → Prop} {te : DTE} {ρ : Env'} {Q : List D → Store → Prop} {M : Store} (kp : keep M) {γ : Type} (f g : γ → D) (ls : List γ) (hl : ls.length ≤ sizeLine)
    (step : ∀ x ∈ ls, ∃ ρ2, sh.bind (f x) (dwipe ρ vs) = some ρ2 ∧ ∀ K : DK, K (g x) M → te ρ2 M K) (fin : Q (ls.map g) M) : lcGo sh vs keep dYes te ρ (ls.map f) M [] Q := by
  refine lc_inv (fun i M' acc => M' = M ∧ acc = (ls.take i).map g) ⟨rfl, rfl⟩ (fun i x M' acc ex h => ?_) fun M' acc h => ?_
  · obtain ⟨rfl, rfl⟩ := h
    rw [List.getElem?_map] at ex
    obtain ⟨y, ey, rfl⟩ := Option.map_eq_some_iff.mp ex
    have hi : i < ls.length := (List.getElem?_eq_some_iff.mp ey).1
    obtain ⟨ρ2, eb, st⟩ := step y (List.mem_of_getElem? ey)
    refine ⟨kp, ρ2, eb, fun go k => ?_⟩
    unfold dYes
    dsimp only
    rw [if_pos rfl]
    refine st _ ⟨by rw [List.length_map, List.length_take]; omega, k _ _ ⟨rfl, ?_⟩⟩
    rw [List.take_add_one, ey]
    simp
  · obtain ⟨rfl, rfl⟩ := h
    rw [List.length_map, List.take_length]
    exact ⟨kp, fin⟩
/-- [e for x in xs if t], nothing else done -/
theorem lc_filter {sh : Shape} {vs : List Nat} {keep : Store → Prop} {tt : DTT} {te : DTE} {ρ : Env'} {Q : List D → Store → Prop} {M : Store} (kp : keep M) {γ : Type} (f : γ → D) (g : γ → Option D) (ls : List γ) (hl : ls.length ≤ sizeLine)
    (step : ∀ x ∈ ls, ∃ ρ2, sh.bind (f x) (dwipe ρ vs) = some ρ2 ∧ ∀ K : Bool → Store → Prop, K (g x).isSome M → tt ρ2 M K) (val : ∀ x ∈ ls, ∀ d, g x = some d → ∀ ρ2, sh.bind (f x) (dwipe ρ vs) = some ρ2 → ∀ K : DK, K d M → te ρ2 M K)
    (fin : Q (ls.filterMap g) M) : lcGo sh vs keep tt te ρ (ls.map f) M [] Q := by
  refine lc_inv (fun i M' acc => M' = M ∧ acc = (ls.take i).filterMap g) ⟨rfl, rfl⟩ (fun i x M' acc ex h => ?_) fun M' acc h => ?_
  · obtain ⟨rfl, rfl⟩ := h
    rw [List.getElem?_map] at ex
    obtain ⟨y, ey, rfl⟩ := Option.map_eq_some_iff.mp ex
    have hi : i < ls.length := (List.getElem?_eq_some_iff.mp ey).1
    obtain ⟨ρ2, eb, st⟩ := step y (List.mem_of_getElem? ey)
    have et : ls.take (i + 1) = ls.take i ++ [y] := by rw [List.take_add_one, ey]; rfl
    refine ⟨kp, ρ2, eb, fun go k => st _ ?_⟩
    cases eg : g y with
    | none =>
      rw [Option.isSome_none, if_neg Bool.false_ne_true]
      exact k _ _ ⟨rfl, by rw [et, List.filterMap_append]; simp [eg]⟩
    | some d =>
      rw [Option.isSome_some, if_pos rfl]
      refine val y (List.mem_of_getElem? ey) d eg ρ2 eb _ ⟨?_, k _ _ ⟨rfl, by rw [et, List.filterMap_append]; simp [eg]⟩⟩
      have := List.length_filterMap_le g (ls.take i)
      rw [List.length_take] at this
      omega
  · obtain ⟨rfl, rfl⟩ := h
    rw [List.length_map, List.take_length]
    exact ⟨kp, fin⟩

/-! ### what is handed back -/
theorem RetOk.keep {M : Store} {d : D} {M2 : Store} {Q : DK} (h : Q d M2) : RetOk M d M2 Q := .inl h
/-- the def's own cells dropped -/
theorem RetOk.drop {M G : Store} {d : D} {Q : DK} (hb : d.bel M.length) (h : Q d M) : RetOk M d (M ++ G) Q := .inr ⟨d, M, G, rfl, Nat.le_refl _, fun i o e => .inl e, .keep hb, h⟩
theorem fz_items {M : Store} {n : Nat} {ds : List D} (h : belows n ds) : ∀ (i : Nat) (d d' : D), ds[i]? = some d → ds[i]? = some d' → Fz M n d d' := fun i d d' e1 e2 => by
  rw [e1] at e2
  cases e2
  exact .keep (belows_get h e1)
/-- the def's own list handed back: it stays as it is from now on -/
theorem RetOk.lst {M G : Store} {ds : List D} {Q : DK} {k : Nat} (hk : M.length ≤ k) (he : (M ++ G)[k]? = some (.lst ds)) (hb : belows M.length ds) (h : Q (.lst ds) M) : RetOk M (.ref k) (M ++ G) Q :=
  .inr ⟨.lst ds, M, G, rfl, Nat.le_refl _, fun i o e => .inl e, .cl hk he rfl (fz_items hb), h⟩
theorem RetOk.dk {M G : Store} {kvs : List (Key × D)} {Q : DK} {k : Nat} (hk : M.length ≤ k) (he : (M ++ G)[k]? = some (.dk kvs)) (hb : belowK M.length kvs) (h : Q (.dk kvs) M) : RetOk M (.ref k) (M ++ G) Q :=
  .inr ⟨.dk kvs, M, G, rfl, Nat.le_refl _, fun i o e => .inl e, .cdk hk he rfl fun i d d' e1 e2 => by
    rw [e1] at e2
    cases e2
    exact .keep (belowK_iff.mp hb d (List.mem_of_getElem? e1)), h⟩
theorem RetOk.dn {M G : Store} {kvs : List (NestedKey × D)} {Q : DK} {k : Nat} (hk : M.length ≤ k) (he : (M ++ G)[k]? = some (.dn kvs)) (hb : belowN M.length kvs) (h : Q (.dn kvs) M) : RetOk M (.ref k) (M ++ G) Q :=
  .inr ⟨.dn kvs, M, G, rfl, Nat.le_refl _, fun i o e => .inl e, .cdn hk he rfl fun i d d' e1 e2 => by
    rw [e1] at e2
    cases e2
    exact .keep (belowN_iff.mp hb d (List.mem_of_getElem? e1)), h⟩
/-- the same where cells of the caller's changed: L' in place of L -/
theorem RetOk.cut {L L' G : Store} {d d' : D} {Q : DK} (hl : L.length ≤ L'.length) (hb : ∀ o ∈ L', o.bel L'.length) (hz : Fz (L' ++ G) L'.length d d') (h : Q d' L') : RetOk L d (L' ++ G) Q :=
  .inr ⟨d', L', G, rfl, hl, fun i o e => .inr (hb o (List.mem_of_getElem? e)), hz, h⟩
/-! ### cells -/
theorem get_at (M L : Store) (k : Nat) : (M ++ L)[M.length + k]? = L[k]? := by
  rw [List.getElem?_append_right (Nat.le_add_right _ _)]
  simp
theorem get_at0 (M L : Store) : (M ++ L)[M.length]? = L[0]? := get_at M L 0
theorem set_at (M L : Store) (k : Nat) (o : MO) : (M ++ L).set (M.length + k) o = M ++ L.set k o := by
  rw [List.set_append_right _ _ (Nat.le_add_right _ _)]
  simp
theorem set_at0 (M L : Store) (o : MO) : (M ++ L).set M.length o = M ++ L.set 0 o := set_at M L 0 o

/-! ### items -/
theorem ixN_at {n j : Nat} (hj : j < n) : ixN n (j : Int) = some j := by
  unfold ixN
  rw [if_pos (by omega), if_pos (by omega)]
  simp
theorem viewS_cell {ds : List D} {k : Nat} {M : Store} (e0 : M[k]? = some (.lst ds)) : viewS M (.ref k) = some ds := by
  show (match M[k]? with | some (.lst ds) => some ds | _ => none) = some ds
  rw [e0]
theorem viewL_cell {ds : List D} {k : Nat} {M : Store} (e0 : M[k]? = some (.lst ds)) : viewL M (.ref k) = some ds := by
  show (match M[k]? with | some (.lst ds) => some ds | _ => none) = some ds
  rw [e0]
theorem atI_nat {α : Type} {l : List α} {n : Nat} {x : α} (h : l[n]? = some x) : atI l ((n : Nat) : Int) = some x := by
  have hn : n < l.length := (List.getElem?_eq_some_iff.mp h).1
  have e : ixN l.length ((n : Nat) : Int) = some n := ixN_at (by omega)
  unfold atI
  rw [e]
  exact h
theorem ixR_lst {γ : Type} {f : γ → D} {l : List γ} {n : Nat} {x : γ} {M : Store} {Q : DK} (h : l[n]? = some x) (q : Q (f x) M) : ixR (.lst (l.map f)) (.int ((n : Nat) : Int)) M Q := by
  have e : ixD M (.lst (l.map f)) (.int ((n : Nat) : Int)) = some (f x) := atI_nat (by rw [List.getElem?_map, h]; rfl)
  unfold ixR
  rw [e]
  exact ⟨trivial, q⟩
theorem ixR_tupm {γ : Type} {f : γ → D} {l : List γ} {n : Nat} {x : γ} {M : Store} {Q : DK} (h : l[n]? = some x) (q : Q (f x) M) : ixR (.tup (l.map f)) (.int ((n : Nat) : Int)) M Q := by
  have e : ixD M (.tup (l.map f)) (.int ((n : Nat) : Int)) = some (f x) := atI_nat (by rw [List.getElem?_map, h]; rfl)
  unfold ixR
  rw [e]
  exact ⟨trivial, q⟩
theorem ixR_tup {ds : List D} {n : Nat} {x : D} {M : Store} {Q : DK} (h : ds[n]? = some x) (q : Q x M) : ixR (.tup ds) (.int ((n : Nat) : Int)) M Q := by
  have e : ixD M (.tup ds) (.int ((n : Nat) : Int)) = some x := atI_nat h
  unfold ixR
  rw [e]
  exact ⟨trivial, q⟩
theorem ixR_lst' {ds : List D} {n : Nat} {x : D} {M : Store} {Q : DK} (h : ds[n]? = some x) (q : Q x M) : ixR (.lst ds) (.int ((n : Nat) : Int)) M Q := by
  have e : ixD M (.lst ds) (.int ((n : Nat) : Int)) = some x := atI_nat h
  unfold ixR
  rw [e]
  exact ⟨trivial, q⟩
theorem ixR_cell {ds : List D} {k n : Nat} {x : D} {M : Store} {Q : DK} (e0 : M[k]? = some (.lst ds)) (h : ds[n]? = some x) (q : Q x M) : ixR (.ref k) (.int ((n : Nat) : Int)) M Q := by
  have e : ixD M (.ref k) (.int ((n : Nat) : Int)) = some x := by
    show (match viewS M (.ref k) with | some ds => (some ((n : Nat) : Int)).bind (atI ds) | none => (dGet M (.ref k) (.int n)).bind id) = _
    rw [viewS_cell e0]
    exact atI_nat h
  unfold ixR
  rw [e]
  exact ⟨trivial, q⟩
theorem ixR_str {z : Str} {n : Nat} {c : Nat} {M : Store} {Q : DK} (hz : z.length ≤ sizeLine) (h : z.cps.toList[n]? = some c) (q : Q (.str ⟨#[c]⟩) M) : ixR (.str z) (.int ((n : Nat) : Int)) M Q := by
  have e : ixD M (.str z) (.int ((n : Nat) : Int)) = some (.str ⟨#[c]⟩) := by
    show ((some ((n : Nat) : Int)).bind fun i => (atI z.cps.toList i).map fun c => D.str ⟨#[c]⟩) = _
    rw [Option.bind_some, atI_nat h]
    rfl
  unfold ixR
  rw [e]
  exact ⟨hz, q⟩
theorem lenR_cell {ds : List D} {k : Nat} {M : Store} {Q : DK} (e0 : M[k]? = some (.lst ds)) (q : Q (.int ds.length) M) : lenR [.ref k] M Q := by
  show (match viewS M (.ref k) with | some ds => Q (.int ds.length) M | none => False)
  rw [viewS_cell e0]
  exact q
theorem append_cell {ds : List D} {k : Nat} {y : D} {M : Store} {Q : DK} (e0 : M[k]? = some (.lst ds)) (hl : ds.length < sizeLine) (q : Q .non (M.set k (.lst (ds ++ [y])))) : appendR (.ref k) [y] M Q := by
  show (match M[k]? with | some (.lst ds) => ds.length < sizeLine ∧ Q .non (M.set k (.lst (ds ++ [y]))) | _ => False)
  rw [e0]
  exact ⟨hl, q⟩
theorem small {n : Nat} (h : n ≤ 16000000) : n < sizeLine := Nat.lt_of_le_of_lt h (by decide)
theorem small' {n : Nat} (h : n ≤ 16000000) : n ≤ sizeLine := Nat.le_of_lt (small h)

/-! ### operations, one at a time -/
section
variable {M : Store} {Q : DK}
theorem eqR_int {i j : Int} (q : Q (.bl (decide (i = j))) M) : eqR (.int i) (.int j) M Q := q
theorem eqR_str {i j : Str} (q : Q (.bl (decide (i = j))) M) : eqR (.str i) (.str j) M Q := q
theorem eqR_bl {i j : Bool} (q : Q (.bl (decide (i = j))) M) : eqR (.bl i) (.bl j) M Q := q
theorem neR_int {i j : Int} (q : Q (.bl (!decide (i = j))) M) : neR (.int i) (.int j) M Q := q
theorem neR_str {i j : Str} (q : Q (.bl (!decide (i = j))) M) : neR (.str i) (.str j) M Q := q
theorem ltR_int {i j : Int} (q : Q (.bl (decide (i < j))) M) : ltR (.int i) (.int j) M Q := q
theorem leR_int {i j : Int} (q : Q (.bl (decide (i ≤ j))) M) : leR (.int i) (.int j) M Q := q
theorem gtR_int {i j : Int} (q : Q (.bl (decide (j < i))) M) : gtR (.int i) (.int j) M Q := q
theorem geR_int {i j : Int} (q : Q (.bl (decide (j ≤ i))) M) : geR (.int i) (.int j) M Q := q
theorem addR_int {i j : Int} (q : Q (.int (i + j)) M) : addR (.int i) (.int j) M Q := q
theorem addR_str {i j : Str} (h : i.length + j.length ≤ sizeLine) (q : Q (.str (i ++ j)) M) : addR (.str i) (.str j) M Q := ⟨h, q⟩
theorem iaddR_int {i j : Int} (q : Q (.int (i + j)) M) : iaddR (.int i) (.int j) M Q := q
theorem subR_int {i j : Int} (q : Q (.int (i - j)) M) : subR (.int i) (.int j) M Q := q
theorem mulR_int {i j : Int} (h : CMul i j) (q : Q (.int (i * j)) M) : mulR (.int i) (.int j) M Q := ⟨h, q⟩
theorem modR_int {i j : Int} (h : j ≠ 0) (q : Q (.int (i.fmod j)) M) : modR (.int i) (.int j) M Q := ⟨h, q⟩
theorem fdivR_int {i j : Int} (h : CDivN i j) (q : Q (.int (i.fdiv j)) M) : fdivR (.int i) (.int j) M Q := ⟨h, q⟩
theorem powR_int {i j : Int} (h : CPow i j) (q : Q (.int (i ^ j.toNat)) M) : powR (.int i) (.int j) M Q := ⟨h, q⟩
theorem isNR_q {x : D} (q : Q (.bl x.isN) M) : isNR x .non M Q := q
theorem notNR_q {x : D} (q : Q (.bl (!x.isN)) M) : notNR x .non M Q := q
theorem lenR_lst {ds : List D} (q : Q (.int ds.length) M) : lenR [.lst ds] M Q := q
theorem lenR_tup {ds : List D} (q : Q (.int ds.length) M) : lenR [.tup ds] M Q := q
theorem lenR_str {z : Str} (h : z.length ≤ sizeLine) (q : Q (.int z.length) M) : lenR [.str z] M Q := ⟨h, q⟩
theorem intCR_int {i : Int} (q : Q (.int i) M) : intCR [.int i] M Q := q
theorem intCR_bl {b : Bool} (q : Q (.int (if b then 1 else 0)) M) : intCR [.bl b] M Q := q
theorem absR_int {i : Int} (q : Q (.int (if i < 0 then -i else i)) M) : absR [.int i] M Q := q
theorem ite_dec {c : Prop} [Decidable c] {A B : Prop} (h1 : c → A) (h2 : ¬ c → B) : if decide c = true then A else B := by
  by_cases h : c
  · rw [if_pos (decide_eq_true h)]; exact h1 h
  · rw [if_neg (by simpa using h)]; exact h2 h
theorem ite_ndec {c : Prop} [Decidable c] {A B : Prop} (h1 : ¬ c → A) (h2 : c → B) : if (!decide c) = true then A else B := by
  by_cases h : c
  · rw [if_neg (by simpa using h)]; exact h2 h
  · rw [if_pos (by simpa using h)]; exact h1 h
theorem ite_bool {c : Bool} {A B : Prop} (h1 : c = true → A) (h2 : c = false → B) : if c = true then A else B := by
  cases c
  · rw [if_neg Bool.false_ne_true]; exact h2 rfl
  · rw [if_pos rfl]; exact h1 rfl
theorem ite_nbool {c : Bool} {A B : Prop} (h1 : c = false → A) (h2 : c = true → B) : if (!c) = true then A else B := by
  cases c
  · exact (if_pos (show (!false) = true from rfl)).symm ▸ h1 rfl
  · exact (if_neg (show ¬ (!true) = true from Bool.false_ne_true)).symm ▸ h2 rfl
theorem tyM_lst {k : Nat} {ds : List D} (e : M[k]? = some (.lst ds)) : tyM M (.ref k) = some "list" := by
  show (match M[k]? with | some (.lst _) => some "list" | some (.dk _) => some "dict" | some (.dn _) => some "dict" | _ => none) = _
  rw [e]
theorem tyM_dk {k : Nat} {ds : List (Key × D)} (e : M[k]? = some (.dk ds)) : tyM M (.ref k) = some "dict" := by
  show (match M[k]? with | some (.lst _) => some "list" | some (.dk _) => some "dict" | some (.dn _) => some "dict" | _ => none) = _
  rw [e]
theorem tyM_dn {k : Nat} {ds : List (NestedKey × D)} (e : M[k]? = some (.dn ds)) : tyM M (.ref k) = some "dict" := by
  show (match M[k]? with | some (.lst _) => some "list" | some (.dk _) => some "dict" | some (.dn _) => some "dict" | _ => none) = _
  rw [e]
end

/-! ### dicts as lists of pairs -/
section
variable {κ κ' α β : Type} [DecidableEq κ] [DecidableEq κ']
theorem aGet_map {c : κ → κ'} (inj : ∀ a b, c a = c b → a = b) (g : α → β) (k : κ) : ∀ f : List (κ × α), aGet (f.map fun p => (c p.1, g p.2)) (c k) = (aGet f k).map g
  | [] => rfl
  | p :: r => by
    rw [List.map_cons, aGet_cons, aGet_cons]
    by_cases e : p.1 = k
    · rw [if_pos e, if_pos (show (c p.1, g p.2).1 = c k from congrArg c e)]
      rfl
    · rw [if_neg e, if_neg (fun z => e (inj _ _ z))]
      exact aGet_map inj g k r
theorem aPut_map {c : κ → κ'} (inj : ∀ a b, c a = c b → a = b) (g : α → β) (k : κ) (v : α) (f : List (κ × α)) : aPut (f.map fun p => (c p.1, g p.2)) (c k) (g v) = (aPut f k v).map fun p => (c p.1, g p.2) := by
  unfold aPut
  rw [aGet_map inj g k f, Option.isSome_map]
  by_cases h : (aGet f k).isSome = true
  · rw [if_pos h, if_pos h, List.map_map, List.map_map]
    refine List.map_congr_left fun p _ => ?_
    show (if c p.1 = c k then (c p.1, g v) else (c p.1, g p.2)) = (fun p => (c p.1, g p.2)) (if p.1 = k then (p.1, v) else p)
    by_cases e : p.1 = k
    · rw [if_pos e, if_pos (congrArg c e)]
    · rw [if_neg e, if_neg (fun z => e (inj _ _ z))]
  · rw [if_neg h, if_neg h, List.map_append]
    rfl
theorem aGet_append (f : List (κ × α)) (k : κ) (v : α) (k' : κ) : aGet (f ++ [(k, v)]) k' = (aGet f k').or (if k = k' then some v else none) := by
  induction f with
  | nil =>
    rw [List.nil_append, aGet_cons]
    rfl
  | cons p r ih =>
    rw [List.cons_append, aGet_cons, aGet_cons, ih]
    by_cases e : p.1 = k'
    · rw [if_pos e, if_pos e]
      rfl
    · rw [if_neg e, if_neg e]
theorem aGet_over (f : List (κ × α)) (k : κ) (v : α) (k' : κ) : aGet (f.map fun p => if p.1 = k then (p.1, v) else p) k' = if k = k' then (aGet f k').map fun _ => v else aGet f k' := by
  induction f with
  | nil => split <;> rfl
  | cons p r ih =>
    rw [List.map_cons, aGet_cons, aGet_cons, ih]
    by_cases h : k = k'
    · subst h
      rw [if_pos rfl, if_pos rfl]
      by_cases e : p.1 = k
      · rw [if_pos e, if_pos e]
        simp [e]
      · rw [if_neg e, if_neg e]
        simp [e]
    · rw [if_neg h, if_neg h]
      by_cases e : p.1 = k
      · have e2 : ¬ p.1 = k' := fun z => h (e.symm.trans z)
        rw [if_pos e, if_neg e2]
        simp [e2]
      · rw [if_neg e]
theorem aGet_aPut (f : List (κ × α)) (k : κ) (v : α) (k' : κ) : aGet (aPut f k v) k' = if k = k' then some v else aGet f k' := by
  unfold aPut
  by_cases h : (aGet f k).isSome = true
  · rw [if_pos h, aGet_over]
    by_cases e : k = k'
    · subst e
      rw [if_pos rfl, if_pos rfl]
      obtain ⟨x, hx⟩ := Option.isSome_iff_exists.mp h
      rw [hx]
      rfl
    · rw [if_neg e, if_neg e]
  · rw [if_neg h, aGet_append]
    by_cases e : k = k'
    · subst e
      rw [if_pos rfl, if_pos rfl]
      have : aGet f k = none := by simpa using h
      rw [this]
      rfl
    · rw [if_neg e, if_neg e, Option.or_none]
theorem aPut_len (f : List (κ × α)) (k : κ) (v : α) : (aPut f k v).length ≤ f.length + 1 := len_aPut f k v
end

/-- a key as a value -/
def kD' : Key → D
  | .inl i => .int i
  | .inr z => .str z
theorem setR_dk {kvs : List (Key × D)} {n : Nat} {i v : D} {k : Key} {M : Store} {Q : Store → Prop} (e : M[n]? = some (.dk kvs)) (ek : dkey i = some k) (hl : kvs.length < sizeLine) (q : Q (M.set n (.dk (aPut kvs k v)))) : setR (.ref n) i v M Q := by
  unfold setR
  dsimp only
  rw [e]
  dsimp only
  rw [ek]
  exact ⟨hl, q⟩
theorem setR_dn {kvs : List (NestedKey × D)} {n : Nat} {i v : D} {k : NestedKey} {M : Store} {Q : Store → Prop} (e : M[n]? = some (.dn kvs)) (ek : tkey i = some k) (hd : k.depth ≤ 8) (hl : kvs.length < sizeLine) (q : Q (M.set n (.dn (aPut kvs k v)))) : setR (.ref n) i v M Q := by
  unfold setR
  dsimp only
  rw [e]
  dsimp only
  rw [ek]
  exact ⟨hd, hl, q⟩
theorem setR_lst {ds : List D} {n j : Nat} {v : D} {M : Store} {Q : Store → Prop} (e : M[n]? = some (.lst ds)) (hj : j < ds.length) (q : Q (M.set n (.lst (ds.set j v)))) : setR (.ref n) (.int ((j : Nat) : Int)) v M Q := by
  have ei : (intOf (.int ((j : Nat) : Int))).bind (ixN ds.length) = some j := ixN_at hj
  unfold setR
  dsimp only
  rw [e]
  dsimp only
  rw [ei]
  exact q
theorem ixR_dk {kvs : List (Key × D)} {y x : D} {k : Key} {M : Store} {Q : DK} (ek : dkey y = some k) (h : aGet kvs k = some x) (q : Q x M) : ixR (.dk kvs) y M Q := by
  have e : ixD M (.dk kvs) y = some x := by
    show ((dkey y).map (aGet kvs)).bind id = _
    rw [ek]
    exact h
  unfold ixR
  rw [e]
  exact ⟨trivial, q⟩
theorem ixR_dn {kvs : List (NestedKey × D)} {y x : D} {k : NestedKey} {M : Store} {Q : DK} (ek : tkey y = some k) (hd : k.depth ≤ 8) (h : aGet kvs k = some x) (q : Q x M) : ixR (.dn kvs) y M Q := by
  have e : ixD M (.dn kvs) y = some x := by
    show ((tkey y).bind fun k => if k.depth ≤ 8 then some (aGet kvs k) else none).bind id = _
    rw [ek, Option.bind_some, if_pos hd]
    exact h
  unfold ixR
  rw [e]
  exact ⟨trivial, q⟩
theorem dGet_dk {kvs : List (Key × D)} {n : Nat} {y : D} {k : Key} {M : Store} (e : M[n]? = some (.dk kvs)) (ek : dkey y = some k) : dGet M (.ref n) y = some (aGet kvs k) := by
  unfold dGet
  dsimp only
  rw [e]
  dsimp only
  rw [ek]
  rfl
theorem dGet_dn {kvs : List (NestedKey × D)} {n : Nat} {y : D} {k : NestedKey} {M : Store} (e : M[n]? = some (.dn kvs)) (ek : tkey y = some k) (hd : k.depth ≤ 8) : dGet M (.ref n) y = some (aGet kvs k) := by
  unfold dGet
  dsimp only
  rw [e]
  dsimp only
  rw [ek, Option.bind_some, if_pos hd]
theorem dGet_fdn {kvs : List (NestedKey × D)} {y : D} {k : NestedKey} {M : Store} (ek : tkey y = some k) (hd : k.depth ≤ 8) : dGet M (.dn kvs) y = some (aGet kvs k) := by
  show (tkey y).bind (fun k => if k.depth ≤ 8 then some (aGet kvs k) else none) = _
  rw [ek, Option.bind_some, if_pos hd]
theorem notInR_at {x y : D} {o : Option D} {M : Store} {Q : DK} (e : dGet M x y = some o) (q : Q (.bl (!o.isSome)) M) : notInR y x M Q := by
  unfold notInR
  rw [e]
  exact q
theorem inR_at {x y : D} {o : Option D} {M : Store} {Q : DK} (e : dGet M x y = some o) (q : Q (.bl o.isSome) M) : DL.inR y x M Q := by
  unfold DL.inR
  rw [e]
  exact q
theorem getOr_at {x y z : D} {o : Option D} {M : Store} {Q : DK} (e : dGet M x y = some o) (q : Q (o.getD z) M) : getOr x [y, z] M Q := by
  show (match dGet M x y with | some o => Q (o.getD z) M | none => False)
  rw [e]
  exact q
theorem cutD_tail (xs : List D) : cutD xs (some 1) none = xs.tail := by
  unfold cutD
  cases xs with
  | nil => simp
  | cons x r =>
    have h1 : HT.sIx (x :: r).length 0 (some 1) = 1 := by
      rw [List.length_cons]
      have := HT.sIx
      simp [HT.sIx]
      try omega
    have h2 : HT.sIx (x :: r).length (x :: r).length none = (x :: r).length := by simp [HT.sIx]
    rw [h1, h2]
    simp
theorem sliceR_lst {xs : List D} {lo hi : Option Int} {M : Store} {Q : DK} (q : Q (.lst (cutD xs lo hi)) M) : sliceR (.lst xs) lo hi M Q := q
theorem sliceR_tup {xs : List D} {lo hi : Option Int} {M : Store} {Q : DK} (q : Q (.tup (cutD xs lo hi)) M) : sliceR (.tup xs) lo hi M Q := q
theorem sliceR_str {z : Str} {lo hi : Option Int} {M : Store} {Q : DK} (h : z.length ≤ sizeLine) (q : Q (.str (cutS z lo hi)) M) : sliceR (.str z) lo hi M Q := ⟨h, q⟩
end DL

set_option Elab.async false
set_option linter.all false
set_option maxRecDepth 100000
set_option maxHeartbeats 2000000
/-! DLTxt: texts by their signs. -/
namespace DL
open PySem L2
open PyProof.Rows hiding St signs inR
theorem signs_app (a b : Str) : signs (a ++ b) = signs a ++ signs b := by
  unfold signs
  show (a.cps ++ b.cps).toList.map _ = _
  rw [Array.toList_append, List.map_append]
theorem signs_cut {z : Str} {lo hi : Option Int} {c : Str} (h : c ∈ signs (cutS z lo hi)) : c ∈ signs z := by
  unfold signs cutS at *
  obtain ⟨x, hx, rfl⟩ := List.mem_map.mp h
  refine List.mem_map.mpr ⟨x, ?_, rfl⟩
  have hx : x ∈ (z.cps.toList.drop (HT.sIx z.length 0 lo)).take (HT.sIx z.length z.length hi - HT.sIx z.length 0 lo) := by simpa using hx
  exact List.mem_of_mem_drop (List.mem_of_mem_take hx)
theorem foldl_app_toList (l : List (Array Nat)) (a : Array Nat) : (l.foldl (· ++ ·) a).toList = a.toList ++ (l.map (·.toList)).flatten := by
  induction l generalizing a with
  | nil => simp
  | cons x l ih =>
    rw [List.foldl_cons, ih]
    simp
theorem signs_mul {z : Str} {n : Int} {c : Str} (h : c ∈ signs (Txt.mul z n)) : c ∈ signs z := by
  unfold Txt.mul at h
  split at h
  · simp [signs, Str.empty] at h
  · split at h
    · exact h
    · unfold signs at *
      obtain ⟨x, hx, rfl⟩ := List.mem_map.mp h
      refine List.mem_map.mpr ⟨x, ?_, rfl⟩
      have hx : x ∈ ((List.replicate n.toNat z.cps).foldl (· ++ ·) (#[] : Array Nat)).toList := hx
      rw [foldl_app_toList] at hx
      simp only [List.nil_append, List.mem_flatten, List.map_replicate] at hx
      obtain ⟨l, hl, hx⟩ := hx
      rw [List.eq_of_mem_replicate hl] at hx
      exact hx
theorem mul_len (z : Str) {n : Int} (h : 0 ≤ n) : (Txt.mul z n).length ≤ z.length * n.toNat := by
  unfold Txt.mul
  split
  · exact Nat.zero_le _
  · split
    · rename_i h1 h2
      have : 1 ≤ n.toNat := by omega
      calc z.length = z.length * 1 := by omega
        _ ≤ z.length * n.toNat := Nat.mul_le_mul_left _ this
    · show ((List.replicate n.toNat z.cps).foldl (· ++ ·) (#[] : Array Nat)).size ≤ _
      rw [← Array.length_toList, foldl_app_toList]
      simp only [List.nil_append, List.map_replicate, List.length_flatten, List.map_replicate, List.sum_replicate_nat, Array.length_toList]
      rw [Nat.mul_comm]
      exact Nat.le_refl _
/-- one sign -/
def One (c : Str) : Prop := ∃ n, c = ⟨#[n]⟩
theorem signs_one {z c : Str} (h : c ∈ signs z) : One c := by
  unfold signs at h
  obtain ⟨x, _, rfl⟩ := List.mem_map.mp h
  exact ⟨x, rfl⟩
theorem signs_empty : signs ⟨#[]⟩ = [] := rfl
theorem signs_join : ∀ ys : List Str, signs (Txt.join ⟨#[]⟩ ys) = (ys.map signs).flatten := fun ys => by
  rw [show Txt.join ⟨#[]⟩ ys = Str.join ⟨#[]⟩ ys from PySem.StrLaws.glued_eq_join _ _]
  induction ys with
  | nil => rfl
  | cons x r ih =>
    cases r with
    | nil =>
      show signs x = _
      simp
    | cons y r =>
      show signs (x ++ ⟨#[]⟩ ++ Str.join ⟨#[]⟩ (y :: r)) = _
      rw [signs_app, signs_app, signs_empty, ih]
      simp
theorem signs_one_eq {c : Str} (h : One c) : signs c = [c] := by
  obtain ⟨n, rfl⟩ := h
  rfl
theorem signs_join_one {ys : List Str} (h : ∀ y ∈ ys, One y) : signs (Txt.join ⟨#[]⟩ ys) = ys := by
  rw [signs_join]
  induction ys with
  | nil => rfl
  | cons y r ih =>
    rw [List.map_cons, List.flatten_cons, signs_one_eq (h y (List.mem_cons_self ..)), ih fun z hz => h z (List.mem_cons_of_mem _ hz)]
    rfl
theorem str_of_signs {a b : Str} (h : signs a = signs b) : a = b := by
  have e : a.cps.toList = b.cps.toList := by
    unfold signs at h
    have inj : ∀ (l r : List Nat), l.map (fun c => (⟨#[c]⟩ : Str)) = r.map (fun c => (⟨#[c]⟩ : Str)) → l = r := fun l => by
      induction l with
      | nil => intro r h; cases r with
        | nil => rfl
        | cons _ _ => cases h
      | cons x l ih =>
        intro r h
        cases r with
        | nil => cases h
        | cons y r =>
          simp only [List.map_cons, List.cons.injEq] at h
          have hx : x = y := by
            have := congrArg (fun s : Str => s.cps[0]?) h.1
            simpa using this
          rw [hx, ih r h.2]
    exact inj _ _ h
  cases a; cases b
  exact congrArg Str.mk (Array.toList_inj.mp e)
theorem len_signs (z : Str) : z.length = (signs z).length := by
  unfold signs
  rw [List.length_map, Array.length_toList]
  rfl
theorem one_len {c : Str} (h : One c) : c.length = 1 := by
  obtain ⟨n, rfl⟩ := h
  rfl
theorem ones_sum {ys : List Str} (h : ∀ y ∈ ys, One y) : (ys.map (·.length)).sum = ys.length := by
  induction ys with
  | nil => rfl
  | cons y r ih =>
    rw [List.map_cons, List.sum_cons, one_len (h y (List.mem_cons_self ..)), ih fun z hz => h z (List.mem_cons_of_mem _ hz), List.length_cons]
    omega
theorem strOk_signs {z : Str} : PyData.strOk z = true ↔ ∀ c ∈ signs z, PyData.strOk c = true := by
  unfold PyData.strOk
  rw [Array.all_eq_true_iff_forall_mem]
  unfold signs
  constructor
  · intro h c hc
    obtain ⟨x, hx, rfl⟩ := List.mem_map.mp hc
    have := h x (by simpa using hx)
    simpa using this
  · intro h x hx
    have := h ⟨#[x]⟩ (List.mem_map.mpr ⟨x, by simpa using hx, rfl⟩)
    simpa using this
/-! operations on texts -/
section
variable {M : Store} {Q : DK}
theorem strsOf_at {x : D} {ys : List Str} (e : viewS M x = some (ys.map D.str)) : (viewS M x).bind strsOf = some ys := by
  rw [e]
  exact strsOf_map ys
theorem joinR_at {x : D} {ys : List Str} (e : viewS M x = some (ys.map D.str)) (h : (ys.map (·.length)).sum ≤ 16777216) (q : Q (.str (Txt.join ⟨#[]⟩ ys)) M) : joinR (.str ⟨#[]⟩) [x] M Q := by
  show (match (viewS M x).bind strsOf with | some ys => (ys.map (·.length)).sum + ys.length * (⟨#[]⟩ : Str).length ≤ 16777216 ∧ Q (.str (Txt.join ⟨#[]⟩ ys)) M | none => False)
  rw [strsOf_at e]
  refine ⟨?_, q⟩
  show _ + _ * 0 ≤ _
  omega
/-- x[i], x a text -/
theorem ixR_sign {z : Str} {n : Nat} {c : Str} (hz : z.length ≤ sizeLine) (h : (signs z)[n]? = some c) (q : Q (.str c) M) : ixR (.str z) (.int ((n : Nat) : Int)) M Q := by
  unfold signs at h
  rw [List.getElem?_map] at h
  obtain ⟨x, ex, rfl⟩ := Option.map_eq_some_iff.mp h
  exact ixR_str hz ex q
theorem pop_cell {ds : List D} {k n : Nat} {y : D} (e0 : M[k]? = some (.lst ds)) (h : ds[n]? = some y) (hl : ds.length ≤ sizeLine) (q : Q y (M.set k (.lst (ds.eraseIdx n)))) : popAtR (.ref k) [.int ((n : Nat) : Int)] M Q := by
  have hn : n < ds.length := (List.getElem?_eq_some_iff.mp h).1
  show (match M[k]? with | some (.lst ds) => 0 ≤ ((n : Nat) : Int) ∧ ((n : Nat) : Int) < ds.length ∧ ds.length ≤ sizeLine ∧ (match ds[((n : Nat) : Int).toNat]? with | some y => Q y (M.set k (.lst (ds.eraseIdx ((n : Nat) : Int).toNat))) | none => False) | _ => False)
  rw [e0]
  dsimp only
  rw [Int.toNat_natCast, h]
  exact ⟨by omega, by omega, hl, q⟩
theorem mulR_str {z : Str} {n : Int} (h : MulOk z n) (q : Q (.str (Txt.mul z n)) M) : mulR (.str z) (.int n) M Q := ⟨h, q⟩
theorem mulOk {z : Str} {n : Nat} (h1 : n ≤ 1000) (h2 : z.length ≤ 1000) : MulOk z n := by
  have hs := sizeLine_eq
  have h3 : z.length * n ≤ 1000000 := Nat.mul_le_mul h2 h1
  refine ⟨?_, fun hn _ => ?_, fun hn _ => ?_⟩
  · rw [Bool.or_eq_false_iff]
    exact ⟨decide_eq_false (by omega), decide_eq_false (by omega)⟩
  · have : (1000 : Int) ≤ (2 ^ 63 - 1) / (n : Int) := by
      rw [Int.le_ediv_iff_mul_le (by omega)]
      omega
    omega
  · unfold PySem.Builtin.Str.tooLong
    rw [Int.toNat_natCast]
    exact decide_eq_false (by omega)
theorem sorted_strs {x : D} {ys : List Str} (e : srcD M x = some (ys.map D.str)) (hl : ys.length ≤ sizeLine) (q : Q (.lst ((sortS ys).map D.str)) M) : sortedR [x] M Q :=
  ⟨Str, ys, D.str, PyData.str, e, ⟨fun y _ => .str y, alike_strs _, sortable_strs _, hl, fun y _ => Nat.zero_le _⟩, q⟩
theorem srcD_cell {ds : List D} {k : Nat} (e : M[k]? = some (.lst ds)) : srcD M (.ref k) = some ds := by
  show (match M[k]? with | some (.lst ds) => some ds | some (.dn kvs) => some (kvs.map fun (p : NestedKey × D) => kD p.1) | _ => none) = _
  rw [e]
end
theorem sortS_mem {ks : List Str} {k : Str} : k ∈ sortS ks ↔ k ∈ ks := (List.mergeSort_perm _ _).mem_iff
theorem sortS_len (ks : List Str) : (sortS ks).length = ks.length := (List.mergeSort_perm _ _).length_eq
theorem sortS_pair (ks : List Str) : (sortS ks).Pairwise fun a b => leS a b = true := List.pairwise_mergeSort leS_trans leS_total ks
theorem sortS_nodup {ks : List Str} (h : ks.Nodup) : (sortS ks).Nodup := (List.mergeSort_perm _ _).nodup_iff.mpr h
end DL

set_option Elab.async false
set_option linter.all false
set_option maxRecDepth 100000
set_option maxHeartbeats 4000000
/-! printed by gen.py: what each def does to the data -/
namespace K
open PySem L2 DL
open PyProof.Rows hiding St

def t_need_kind : DTS :=
    (dIfS (dB (dOp neR (dOp ixR (dVar 0) (dC (.int 0))) (dVar 1)))
      dNever
      dNext)

def t_joined_once : DTS :=
    (dSeq (dAsg (dLstM dNil) (dgName 3))
    (dSeq (dAsg (dC (.int 0)) (dgName 4))
    (dSeq (dWhile (dB (dOp ltR (dVar 4) (dCB lenR (dCons (dVar 0) dNil))))
      (dIfS (dAnd (dB (dOp eqR (dOp ixR (dVar 0) (dVar 4)) (dVar 1))) (dAnd (dB (dOp ltR (dOp addR (dVar 4) (dC (.int 1))) (dCB lenR (dCons (dVar 0) dNil)))) (dB (dOp eqR (dOp ixR (dVar 0) (dOp addR (dVar 4) (dC (.int 1)))) (dVar 2)))))
        (dSeq (dDrop (dMeth "list" appendR (dVar 3) (dCons (dOp addR (dVar 1) (dVar 2)) dNil)))
        (dAug 4 (dC (.int 2)) iaddR))
        (dSeq (dDrop (dMeth "list" appendR (dVar 3) (dCons (dOp ixR (dVar 0) (dVar 4)) dNil)))
        (dAug 4 (dC (.int 1)) iaddR))))
    (dRet (dVar 3)))))

def t_joined_pieces (s_joined_once : DSp) : DTS :=
    (dSeq (dAsg (dCB listR (dCons (dVar 1) dNil)) (dgName 2))
    (dSeq (dFor (dIter (dVar 0)) (dgSeq 3 (dgCons (dgName 3) (dgCons (dgName 4) (dgCons (dgName 5) dgNil))))
      (dAsg (dCall s_joined_once (dCons (dVar 2) (dCons (dVar 3) (dCons (dVar 4) dNil)))) (dgName 2)))
    (dRet (dVar 2))))

def t_piece_names : DTS :=
    (dSeq (dAsg (dDc (dIter (dOp ixR (dVar 0) (dC (.int 1)))) (.one 5) dYes (dVar 5) (dOp ixR (dVar 0) (dC (.int 2))) [5]) (dgName 1))
    (dSeq (dFor (dIter (dOp ixR (dVar 0) (dC (.int 3)))) (dgSeq 3 (dgCons (dgName 2) (dgCons (dgName 3) (dgCons (dgName 4) dgNil))))
      (dAsg (dVar 4) (dgSub (dVar 1) (dOp addR (dVar 2) (dVar 3)))))
    (dRet (dVar 1))))

def t_join_cut (s_need_kind : DSp) (s_piece_names : DSp) (s_joined_pieces : DSp) : DTS :=
    (dSeq (dDrop (dCall s_need_kind (dCons (dVar 0) (dCons (dC (.str "joins")) dNil))))
    (dSeq (dAsg (dCall s_piece_names (dCons (dVar 0) dNil)) (dgName 2))
    (dRet (dCB tupleR (dCons (dLc (dIter (dCall s_joined_pieces (dCons (dOp ixR (dVar 0) (dC (.int 3))) (dCons (dVar 1) dNil)))) (.one 3) dYes (dTup (dCons (dVar 3) (dCons (dOp ixR (dVar 2) (dVar 3)) dNil))) [3]) dNil)))))

def t_pair_counts : DTS :=
    (dSeq (dAsg dNewN (dgName 3))
    (dSeq (dFor (dZip (dCons (dVar 0) (dCons (dVar 1) dNil))) (dgSeq 2 (dgCons (dgName 4) (dgCons (dgName 5) dgNil)))
      (dFor (dZip (dCons (dVar 4) (dCons (dSl (dVar 4) (dPart (dC (.int 1))) dNoPart) dNil))) (dgSeq 2 (dgCons (dgName 6) (dgCons (dgName 7) dgNil)))
        (dIfS (dB (dOp notInR (dOp addR (dVar 6) (dVar 7)) (dVar 2)))
          (dAsg (dOp addR (dMeth "dict" getOr (dVar 3) (dCons (dTup (dCons (dVar 6) (dCons (dVar 7) dNil))) (dCons (dC (.int 0)) dNil))) (dVar 5)) (dgSub (dVar 3) (dTup (dCons (dVar 6) (dCons (dVar 7) dNil)))))
          dNext)))
    (dRet (dVar 3))))

def t_chosen_pair : DTS :=
    (dSeq (dAsg (dC .non) (dgName 1))
    (dSeq (dAsg (dC (.int 0)) (dgName 2))
    (dSeq (dFor (dIter (dCB sortedR (dCons (dVar 0) dNil))) (dgName 3)
      (dIfS (dB (dOp gtR (dOp ixR (dVar 0) (dVar 3)) (dVar 2)))
        (dSeq (dAsg (dVar 3) (dgName 1))
        (dAsg (dOp ixR (dVar 0) (dVar 3)) (dgName 2)))
        dNext))
    (dRet (dVar 1)))))

def t_trained_steps (s_pair_counts : DSp) (s_chosen_pair : DSp) (s_joined_once : DSp) : DTS :=
    (dSeq (dAsg (dLc (dIter (dVar 0)) (.many [9, 10]) dYes (dCB listR (dCons (dVar 9) dNil)) [9, 10]) (dgName 2))
    (dSeq (dAsg (dLc (dIter (dVar 0)) (.many [9, 10]) dYes (dVar 10) [9, 10]) (dgName 3))
    (dSeq (dAsg dNewK (dgName 4))
    (dSeq (dAsg (dLstM dNil) (dgName 5))
    (dSeq (dFor (dRange1 (dCons (dVar 1) dNil)) (dgName 6)
      (dSeq (dAsg (dCall s_pair_counts (dCons (dVar 2) (dCons (dVar 3) (dCons (dVar 4) dNil)))) (dgName 7))
      (dSeq (dAsg (dCall s_chosen_pair (dCons (dVar 7) dNil)) (dgName 8))
      (dSeq (dDrop (dMeth "list" appendR (dVar 5) (dCons (dTup (dCons (dVar 8) (dCons (dVar 7) dNil))) dNil)))
      (dSeq (dIfS (dB (dOp isNR (dVar 8) (dC .non)))
        (dRet (dVar 5))
        dNext)
      (dSeq (dAsg (dC (.bl true)) (dgSub (dVar 4) (dOp addR (dOp ixR (dVar 8) (dC (.int 0))) (dOp ixR (dVar 8) (dC (.int 1))))))
      (dAsg (dLc (dIter (dVar 2)) (.one 11) dYes (dCall s_joined_once (dCons (dVar 11) (dCons (dOp ixR (dVar 8) (dC (.int 0))) (dCons (dOp ixR (dVar 8) (dC (.int 1))) dNil)))) [11]) (dgName 2))))))))
    (dRet (dVar 5)))))))

def t_train_joins (s_trained_steps : DSp) : DTS :=
    (dSeq (dAsg (dLc (dIter (dCall s_trained_steps (dCons (dVar 2) (dCons (dVar 3) dNil)))) (.many [5, 6]) (dB (dOp notNR (dVar 5) (dC .non))) (dTup (dCons (dOp ixR (dVar 5) (dC (.int 0))) (dCons (dOp ixR (dVar 5) (dC (.int 1))) (dCons (dVar 1) dNil)))) [5, 6]) (dgName 4))
    (dRet (dTup (dCons (dC (.str "joins")) (dCons (dVar 0) (dCons (dVar 1) (dCons (dCB tupleR (dCons (dVar 4) dNil)) dNil)))))))

def t_train_log (s_trained_steps : DSp) : DTS :=
    (dSeq (dAsg (dLstM dNil) (dgName 3))
    (dSeq (dFor (dIter (dCall s_trained_steps (dCons (dVar 1) (dCons (dVar 2) dNil)))) (dgSeq 2 (dgCons (dgName 4) (dgCons (dgName 5) dgNil)))
      (dDrop (dMeth "list" appendR (dVar 3) (dCons (dTup (dCons (dVar 4) (dCons (dCB tupleR (dCons (dLc (dIter (dCB sortedR (dCons (dVar 5) dNil))) (.one 6) dYes (dTup (dCons (dVar 6) (dCons (dOp ixR (dVar 5) (dVar 6)) dNil))) [6]) dNil)) dNil))) dNil))))
    (dRet (dCB tupleR (dCons (dVar 3) dNil)))))

def t_u_law_pool : DTS :=
    (dSeq (dAsg (dLstM dNil) (dgName 1))
    (dSeq (dAsg (dOp addR (dC (.int 60317)) (dCB lenR (dCons (dVar 0) dNil))) (dgName 2))
    (dSeq (dFor (dIter (dVar 0)) (dgName 3)
      (dSeq (dAsg (dCB absR (dCons (dVar 3) dNil)) (dgName 4))
      (dSeq (dIfS (dB (dOp geR (dVar 4) (dOp powR (dC (.int 10)) (dC (.int 18)))))
        (dDrop (dMeth "list" appendR (dVar 1) (dCons (dVar 4) dNil)))
        dNext)
      (dAsg (dOp modR (dOp addR (dOp addR (dOp addR (dOp mulR (dCB intCR (dCons (dVar 2) dNil)) (dC (.int 53891))) (dOp modR (dCB intCR (dCons (dVar 4) dNil)) (dC (.int 2147483423)))) (dOp mulR (dC (.int 17)) (dCB intCR (dCons (dOp ltR (dVar 3) (dC (.int 0))) dNil)))) (dC (.int 8))) (dC (.int 2147483423))) (dgName 2)))))
    (dRet (dLstM (dCons (dVar 1) (dCons (dC (.int 0)) (dCons (dVar 2) dNil))))))))

def t_u_law_draw : DTS :=
    (dSeq (dIfS (dB (dOp ltR (dVar 1) (dC (.int 2))))
      (dRet (dC (.int 0)))
      dNext)
    (dSeq (dAsg (dOp ixR (dVar 0) (dC (.int 0))) (dgName 2))
    (dSeq (dIfS (dB (dOp ltR (dOp ixR (dVar 0) (dC (.int 1))) (dCB lenR (dCons (dVar 2) dNil))))
      (dSeq (dAsg (dCB intCR (dCons (dOp ixR (dVar 2) (dOp ixR (dVar 0) (dC (.int 1)))) dNil)) (dgName 3))
      (dSeq (dAsg (dOp fdivR (dVar 3) (dVar 1)) (dgSub (dVar 2) (dOp ixR (dVar 0) (dC (.int 1)))))
      (dSeq (dIfS (dB (dOp ltR (dVar 3) (dVar 1)))
        (dAsg (dOp addR (dOp ixR (dVar 0) (dC (.int 1))) (dC (.int 1))) (dgSub (dVar 0) (dC (.int 1))))
        dNext)
      (dRet (dOp modR (dCB intCR (dCons (dVar 3) dNil)) (dVar 1))))))
      dNext)
    (dSeq (dAsg (dOp modR (dOp addR (dOp mulR (dCB intCR (dCons (dOp ixR (dVar 0) (dC (.int 2))) dNil)) (dC (.int 47123))) (dC (.int 30011))) (dC (.int 2147483423))) (dgName 4))
    (dSeq (dAsg (dVar 4) (dgSub (dVar 0) (dC (.int 2))))
    (dRet (dOp modR (dOp fdivR (dOp modR (dCB intCR (dCons (dOp addR (dOp mulR (dVar 4) (dC (.int 6733))) (dOp fdivR (dVar 4) (dC (.int 32771)))) dNil)) (dC (.int 1000121))) (dC (.int 16))) (dVar 1))))))))

def t_u_law_letters (s_u_law_draw : DSp) : DTS :=
    (dSeq (dAsg (dCB listRM (dCons (dC (.str "gGhHiIjJkKlLmMnNoOpPqQrRsStTuUvVwWxXyYzZaAbBcCdDeEfF")) dNil)) (dgName 2))
    (dSeq (dAsg (dLstM dNil) (dgName 3))
    (dSeq (dFor (dRange1 (dCons (dVar 1) dNil)) (dgName 4)
      (dDrop (dMeth "list" appendR (dVar 3) (dCons (dMeth "list" popAtR (dVar 2) (dCons (dCall s_u_law_draw (dCons (dVar 0) (dCons (dCB lenR (dCons (dVar 2) dNil)) dNil))) dNil)) dNil))))
    (dRet (dMeth "str" joinR (dC (.str "")) (dCons (dCB sortedR (dCons (dVar 3) dNil)) dNil))))))

def t_u_law_word (s_u_law_draw : DSp) : DTS :=
    (dSeq (dAsg (dMeth "str" joinR (dC (.str "")) (dCons (dLc (dRange1 (dCons (dOp addR (dC (.int 1)) (dCall s_u_law_draw (dCons (dVar 0) (dCons (dC (.int 4)) dNil)))) dNil)) (.one 7) dYes (dOp ixR (dVar 1) (dCall s_u_law_draw (dCons (dVar 0) (dCons (dCB lenR (dCons (dVar 1) dNil)) dNil)))) [7]) dNil)) (dgName 3))
    (dSeq (dAsg (dOp addR (dC (.int 1)) (dCall s_u_law_draw (dCons (dVar 0) (dCons (dVar 2) dNil)))) (dgName 4))
    (dSeq (dAsg (dSl (dOp mulR (dVar 3) (dOp addR (dOp fdivR (dVar 4) (dCB lenR (dCons (dVar 3) dNil))) (dC (.int 1)))) dNoPart (dPart (dVar 4))) (dgName 5))
    (dSeq (dIfS (dB (dOp eqR (dCall s_u_law_draw (dCons (dVar 0) (dCons (dC (.int 3)) dNil))) (dC (.int 0))))
      (dSeq (dAsg (dCall s_u_law_draw (dCons (dVar 0) (dCons (dVar 4) dNil))) (dgName 6))
      (dAsg (dOp addR (dOp addR (dSl (dVar 5) dNoPart (dPart (dVar 6))) (dOp ixR (dVar 1) (dCall s_u_law_draw (dCons (dVar 0) (dCons (dCB lenR (dCons (dVar 1) dNil)) dNil))))) (dSl (dVar 5) (dPart (dOp addR (dVar 6) (dC (.int 1)))) dNoPart)) (dgName 5)))
      dNext)
    (dRet (dVar 5))))))

def t_u_law_count (s_u_law_draw : DSp) : DTS :=
    (dSeq (dAsg (dCall s_u_law_draw (dCons (dVar 0) (dCons (dC (.int 6)) dNil))) (dgName 2))
    (dSeq (dIfS (dB (dOp eqR (dVar 2) (dC (.int 0))))
      (dRet (dC (.int 0)))
      dNext)
    (dSeq (dIfS (dB (dOp ltR (dVar 2) (dC (.int 3))))
      (dRet (dVar 1))
      dNext)
    (dSeq (dIfS (dB (dOp eqR (dVar 2) (dC (.int 3))))
      (dRet (dOp subR (dOp powR (dC (.int 10)) (dC (.int 9))) (dCall s_u_law_draw (dCons (dVar 0) (dCons (dC (.int 3)) dNil)))))
      dNext)
    (dRet (dOp addR (dC (.int 1)) (dCall s_u_law_draw (dCons (dVar 0) (dCons (dC (.int 5)) dNil)))))))))

def t_u_law_corpus (s_u_law_word : DSp) (s_u_law_draw : DSp) (s_u_law_count : DSp) : DTS :=
    (dSeq (dAsg (dLc (dRange1 (dCons (dVar 3) dNil)) (.one 6) dYes (dCall s_u_law_word (dCons (dVar 0) (dCons (dVar 1) (dCons (dVar 2) dNil)))) [6]) (dgName 4))
    (dSeq (dAsg (dOp addR (dC (.int 1)) (dCall s_u_law_draw (dCons (dVar 0) (dCons (dC (.int 4)) dNil)))) (dgName 5))
    (dRet (dCB tupleR (dCons (dLc (dIter (dSortSet (dVar 4))) (.one 7) dYes (dTup (dCons (dVar 7) (dCons (dCall s_u_law_count (dCons (dVar 0) (dCons (dVar 5) dNil))) dNil))) [7]) dNil)))))

def t_u_law_wide (s_u_law_draw : DSp) : DTS :=
    (dSeq (dAsg (dLstM dNil) (dgName 2))
    (dSeq (dFor (dRange1 (dCons (dC (.int 40)) dNil)) (dgName 3)
      (dSeq (dAsg (dIf (dB (dOp gtR (dCB lenR (dCons (dVar 1) dNil)) (dC (.int 3)))) (dMeth "str" joinR (dC (.str "")) (dCons (dLc (dIter (dTup (dCons (dC (.int 64)) (dCons (dC (.int 16)) (dCons (dC (.int 4)) (dCons (dC (.int 1)) dNil)))))) (.one 6) dYes (dOp ixR (dVar 1) (dOp modR (dOp fdivR (dVar 3) (dVar 6)) (dC (.int 4)))) [6]) dNil)) (dC (.str ""))) (dgName 4))
      (dSeq (dIfS (dB (dOp ltR (dCB lenR (dCons (dVar 1) dNil)) (dC (.int 4))))
        (dAsg (dMeth "str" joinR (dC (.str "")) (dCons (dLc (dIter (dTup (dCons (dC (.int 32)) (dCons (dC (.int 16)) (dCons (dC (.int 8)) (dCons (dC (.int 4)) (dCons (dC (.int 2)) (dCons (dC (.int 1)) dNil)))))))) (.one 6) dYes (dOp ixR (dVar 1) (dOp modR (dOp fdivR (dVar 3) (dVar 6)) (dC (.int 2)))) [6]) dNil)) (dgName 4))
        dNext)
      (dSeq (dAsg (dMeth "str" joinR (dC (.str "")) (dCons (dLc (dRange1 (dCons (dOp subR (dOp subR (dC (.int 80)) (dCB lenR (dCons (dVar 4) dNil))) (dCall s_u_law_draw (dCons (dVar 0) (dCons (dC (.int 2)) dNil)))) dNil)) (.one 7) dYes (dOp ixR (dVar 1) (dCall s_u_law_draw (dCons (dVar 0) (dCons (dCB lenR (dCons (dVar 1) dNil)) dNil)))) [7]) dNil)) (dgName 5))
      (dDrop (dMeth "list" appendR (dVar 2) (dCons (dTup (dCons (dOp addR (dVar 4) (dVar 5)) (dCons (dOp subR (dOp powR (dC (.int 10)) (dC (.int 9))) (dCall s_u_law_draw (dCons (dVar 0) (dCons (dOp addR (dOp powR (dC (.int 10)) (dC (.int 9))) (dC (.int 1))) dNil)))) dNil))) dNil)))))))
    (dRet (dCB tupleR (dCons (dVar 2) dNil)))))

def t_u_law_counts : DTS :=
    (dSeq (dAsg dNewN (dgName 2))
    (dSeq (dFor (dIter (dVar 0)) (dgSeq 2 (dgCons (dgName 3) (dgCons (dgName 4) dgNil)))
      (dFor (dRange1 (dCons (dOp subR (dCB lenR (dCons (dVar 3) dNil)) (dC (.int 1))) dNil)) (dgName 5)
        (dIfS (dB (dOp notInR (dOp addR (dOp ixR (dVar 3) (dVar 5)) (dOp ixR (dVar 3) (dOp addR (dVar 5) (dC (.int 1))))) (dVar 1)))
          (dSeq (dAsg (dTup (dCons (dOp ixR (dVar 3) (dVar 5)) (dCons (dOp ixR (dVar 3) (dOp addR (dVar 5) (dC (.int 1)))) dNil))) (dgName 6))
          (dAsg (dOp addR (dMeth "dict" getOr (dVar 2) (dCons (dVar 6) (dCons (dC (.int 0)) dNil))) (dVar 4)) (dgSub (dVar 2) (dVar 6))))
          dNext)))
    (dRet (dVar 2))))

def t_u_law_joined : DTS :=
    (dSeq (dAsg (dLstM dNil) (dgName 2))
    (dSeq (dAsg (dC (.int 0)) (dgName 3))
    (dSeq (dWhile (dB (dOp ltR (dVar 3) (dCB lenR (dCons (dVar 0) dNil))))
      (dIfS (dAnd (dB (dOp ltR (dOp addR (dVar 3) (dC (.int 1))) (dCB lenR (dCons (dVar 0) dNil)))) (dB (dOp eqR (dTup (dCons (dOp ixR (dVar 0) (dVar 3)) (dCons (dOp ixR (dVar 0) (dOp addR (dVar 3) (dC (.int 1)))) dNil))) (dVar 1))))
        (dSeq (dDrop (dMeth "list" appendR (dVar 2) (dCons (dOp addR (dOp ixR (dVar 0) (dVar 3)) (dOp ixR (dVar 0) (dOp addR (dVar 3) (dC (.int 1))))) dNil)))
        (dAsg (dOp addR (dVar 3) (dC (.int 2))) (dgName 3)))
        (dSeq (dDrop (dMeth "list" appendR (dVar 2) (dCons (dOp ixR (dVar 0) (dVar 3)) dNil)))
        (dAsg (dOp addR (dVar 3) (dC (.int 1))) (dgName 3)))))
    (dRet (dVar 2)))))

def t_u_law_trained (s_u_law_counts : DSp) (s_u_law_joined : DSp) : DTS :=
    (dSeq (dAsg (dLc (dIter (dVar 0)) (.many [10, 11]) dYes (dTup (dCons (dLc (dIter (dVar 10)) (.one 12) dYes (dVar 12) [12]) (dCons (dVar 11) dNil))) [10, 11]) (dgName 2))
    (dSeq (dAsg (dLstM dNil) (dgName 3))
    (dSeq (dAsg dNewK (dgName 4))
    (dSeq (dFor (dRange1 (dCons (dVar 1) dNil)) (dgName 5)
      (dSeq (dAsg (dCall s_u_law_counts (dCons (dVar 2) (dCons (dVar 4) dNil))) (dgName 6))
      (dSeq (dAsg (dC (.int 0)) (dgName 7))
      (dSeq (dAsg (dC .non) (dgName 8))
      (dSeq (dFor (dIter (dCB sortedR (dCons (dVar 6) dNil))) (dgName 9)
        (dIfS (dB (dOp gtR (dOp ixR (dVar 6) (dVar 9)) (dVar 7)))
          (dSeq (dAsg (dOp ixR (dVar 6) (dVar 9)) (dgName 7))
          (dAsg (dVar 9) (dgName 8)))
          dNext))
      (dSeq (dIfS (dB (dOp isNR (dVar 8) (dC .non)))
        dBreak
        dNext)
      (dSeq (dDrop (dMeth "list" appendR (dVar 3) (dCons (dVar 8) dNil)))
      (dSeq (dAsg (dC (.bl true)) (dgSub (dVar 4) (dOp addR (dOp ixR (dVar 8) (dC (.int 0))) (dOp ixR (dVar 8) (dC (.int 1))))))
      (dAsg (dLc (dIter (dVar 2)) (.many [13, 11]) dYes (dTup (dCons (dCall s_u_law_joined (dCons (dVar 13) (dCons (dVar 8) dNil))) (dCons (dVar 11) dNil))) [13, 11]) (dgName 2))))))))))
    (dRet (dLst (dCons (dVar 3) (dCons (dLc (dIter (dVar 2)) (.many [13, 11]) dYes (dVar 13) [13, 11]) dNil))))))))

def t_u_law_same (s_u_law_same : DSp) : DTS :=
    (dSeq (dIfS (dB (dOp isNR (dVar 1) (dC .non)))
      (dRet (dOp isNR (dVar 0) (dC .non)))
      dNext)
    (dSeq (dIfS (dB (dCB isiR (dCons (dVar 1) (dCons (dC (.ty "bool")) dNil))))
      (dRet (dAndV (dCB isiR (dCons (dVar 0) (dCons (dC (.ty "bool")) dNil))) (dOp eqR (dVar 0) (dVar 1))))
      dNext)
    (dSeq (dIfS (dB (dCB isiR (dCons (dVar 1) (dCons (dC (.ty "int")) dNil))))
      (dRet (dAndV (dCB isiR (dCons (dVar 0) (dCons (dC (.ty "int")) dNil))) (dAndV (dNotV (dCB isiR (dCons (dVar 0) (dCons (dC (.ty "bool")) dNil)))) (dOp eqR (dVar 0) (dVar 1)))))
      dNext)
    (dSeq (dIfS (dB (dCB isiR (dCons (dVar 1) (dCons (dC (.ty "str")) dNil))))
      (dRet (dAndV (dCB isiR (dCons (dVar 0) (dCons (dC (.ty "str")) dNil))) (dOp eqR (dVar 0) (dVar 1))))
      dNext)
    (dSeq (dIfS (dOr (dNot (dB (dCB isiR (dCons (dVar 0) (dCons (dC (.ty "tuple")) dNil))))) (dB (dOp neR (dCB lenR (dCons (dVar 0) dNil)) (dCB lenR (dCons (dVar 1) dNil)))))
      (dRet (dC (.bl false)))
      dNext)
    (dSeq (dFor (dRange1 (dCons (dCB lenR (dCons (dVar 1) dNil)) dNil)) (dgName 2)
      (dIfS (dNot (dB (dCall s_u_law_same (dCons (dOp ixR (dVar 0) (dVar 2)) (dCons (dOp ixR (dVar 1) (dVar 2)) dNil)))))
        (dRet (dC (.bl false)))
        dNext))
    (dRet (dC (.bl true)))))))))

def t_u_law_log_right (s_train_log : DSp) (s_u_law_same : DSp) : DTS :=
    (dSeq (dAsg (dCall s_train_log (dCons (dVar 0) (dCons (dVar 1) (dCons (dVar 2) dNil)))) (dgName 4))
    (dSeq (dIfS (dNot (dB (dCB isiR (dCons (dVar 4) (dCons (dC (.ty "tuple")) dNil)))))
      (dRet (dC (.bl false)))
      dNext)
    (dSeq (dAsg (dOp ltR (dCB lenR (dCons (dVar 3) dNil)) (dVar 2)) (dgName 5))
    (dSeq (dIfS (dB (dOp neR (dCB lenR (dCons (dVar 4) dNil)) (dOp addR (dCB lenR (dCons (dVar 3) dNil)) (dCB intCR (dCons (dVar 5) dNil)))))
      (dRet (dC (.bl false)))
      dNext)
    (dSeq (dFor (dRange1 (dCons (dCB lenR (dCons (dVar 4) dNil)) dNil)) (dgName 6)
      (dSeq (dIfS (dOr (dNot (dB (dCB isiR (dCons (dOp ixR (dVar 4) (dVar 6)) (dCons (dC (.ty "tuple")) dNil))))) (dB (dOp neR (dCB lenR (dCons (dOp ixR (dVar 4) (dVar 6)) dNil)) (dC (.int 2)))))
        (dRet (dC (.bl false)))
        dNext)
      (dIfS (dNot (dB (dCall s_u_law_same (dCons (dOp ixR (dOp ixR (dVar 4) (dVar 6)) (dC (.int 0))) (dCons (dIf (dB (dOp ltR (dVar 6) (dCB lenR (dCons (dVar 3) dNil)))) (dOp ixR (dVar 3) (dVar 6)) (dC .non)) dNil)))))
        (dRet (dC (.bl false)))
        dNext)))
    (dRet (dC (.bl true))))))))

def t_u_law_holds (s_u_law_trained : DSp) (s_u_law_same : DSp) (s_train_joins : DSp) (s_u_law_log_right : DSp) (s_join_cut : DSp) : DTS :=
    (dSeq (dAsg (dCall s_u_law_trained (dCons (dVar 2) (dCons (dVar 3) dNil))) (dgSeq 2 (dgCons (dgName 4) (dgCons (dgName 5) dgNil))))
    (dSeq (dAsg (dTup (dCons (dC (.str "joins")) (dCons (dVar 0) (dCons (dVar 1) (dCons (dCB tupleR (dCons (dLc (dIter (dVar 4)) (.many [9, 10]) dYes (dTup (dCons (dVar 9) (dCons (dVar 10) (dCons (dVar 1) dNil)))) [9, 10]) dNil)) dNil))))) (dgName 6))
    (dSeq (dSeq (dIfS (dNot (dB (dCall s_u_law_same (dCons (dCall s_train_joins (dCons (dVar 0) (dCons (dVar 1) (dCons (dVar 2) (dCons (dVar 3) dNil))))) (dCons (dVar 6) dNil)))))
        (dRet (dC (.bl false)))
        dNext)
      (dSeq (dIfS (dNot (dB (dCall s_u_law_log_right (dCons (dVar 0) (dCons (dVar 2) (dCons (dVar 3) (dCons (dVar 4) dNil)))))))
        (dRet (dC (.bl false)))
        dNext)
      (dIfS (dB (dOp eqR (dCB lenR (dCons (dLc (dIter (dVar 4)) (.one 11) (dB (dOp gtR (dCB lenR (dCons (dOp addR (dOp ixR (dVar 11) (dC (.int 0))) (dOp ixR (dVar 11) (dC (.int 1)))) dNil)) (dC (.int 8)))) (dVar 11) [11]) dNil)) (dC (.int 0))))
        (dFor (dRange1 (dCons (dCB min2R (dCons (dCB lenR (dCons (dVar 2) dNil)) (dCons (dC (.int 8)) dNil))) dNil)) (dgName 7)
          (dSeq (dAsg (dCB tupleR (dCons (dLc (dIter (dOp ixR (dVar 5) (dVar 7))) (.one 12) dYes (dTup (dCons (dVar 12) (dCons (dVar 1) dNil))) [12]) dNil)) (dgName 8))
          (dIfS (dNot (dB (dCall s_u_law_same (dCons (dCall s_join_cut (dCons (dVar 6) (dCons (dOp ixR (dOp ixR (dVar 2) (dVar 7)) (dC (.int 0))) dNil))) (dCons (dVar 8) dNil)))))
            (dRet (dC (.bl false)))
            dNext)))
        dNext)))
    (dRet (dC (.bl true))))))

def t_law (s_u_law_pool : DSp) (s_u_law_letters : DSp) (s_u_law_draw : DSp) (s_u_law_corpus : DSp) (s_u_law_holds : DSp) (s_u_law_trained : DSp) (s_u_law_wide : DSp) : DTS :=
    (dSeq (dAsg (dCall s_u_law_pool (dCons (dVar 0) dNil)) (dgName 1))
    (dSeq (dAsg (dCall s_u_law_letters (dCons (dVar 1) (dCons (dOp ixR (dLst (dCons (dC (.int 1)) (dCons (dC (.int 2)) (dCons (dC (.int 2)) (dCons (dC (.int 3)) (dCons (dC (.int 3)) (dCons (dC (.int 6)) dNil))))))) (dCall s_u_law_draw (dCons (dVar 1) (dCons (dC (.int 6)) dNil)))) dNil))) (dgName 2))
    (dSeq (dAsg (dOp ixR (dC (.str "ABCDEFGHIJKLMNOPQRSTUVWXYZ")) (dCall s_u_law_draw (dCons (dVar 1) (dCons (dC (.int 26)) dNil)))) (dgName 3))
    (dSeq (dAsg (dTup dNil) (dgName 4))
    (dSeq (dFor (dRange1 (dCons (dC (.int 3)) dNil)) (dgName 5)
      (dSeq (dAsg (dCall s_u_law_corpus (dCons (dVar 1) (dCons (dVar 2) (dCons (dOp ixR (dLst (dCons (dC (.int 5)) (dCons (dC (.int 12)) (dCons (dC (.int 24)) dNil)))) (dVar 5)) (dCons (dOp addR (dC (.int 1)) (dCall s_u_law_draw (dCons (dVar 1) (dCons (dC (.int 6)) dNil)))) dNil))))) (dgName 6))
      (dSeq (dAsg (dOp ixR (dLst (dCons (dC (.int 1)) (dCons (dC (.int 3)) (dCons (dC (.int 8)) (dCons (dC (.int 16)) dNil))))) (dCall s_u_law_draw (dCons (dVar 1) (dCons (dC (.int 4)) dNil)))) (dgName 7))
      (dSeq (dIfS (dOr (dNot (dB (dCall s_u_law_holds (dCons (dVar 2) (dCons (dVar 3) (dCons (dVar 6) (dCons (dVar 7) dNil))))))) (dNot (dB (dCall s_u_law_holds (dCons (dVar 2) (dCons (dVar 3) (dCons (dVar 6) (dCons (dCall s_u_law_draw (dCons (dVar 1) (dCons (dC (.int 3)) dNil))) dNil))))))))
        (dRet (dC (.bl false)))
        dNext)
      (dAsg (dVar 6) (dgName 4))))))
    (dSeq (dAsg (dCall s_u_law_letters (dCons (dVar 1) (dCons (dC (.int 2)) dNil))) (dgName 8))
    (dSeq (dAsg (dTup (dCons (dTup (dCons (dOp mulR (dOp ixR (dVar 8) (dC (.int 0))) (dC (.int 2))) (dCons (dC (.int 1)) dNil))) (dCons (dTup (dCons (dVar 8) (dCons (dC (.int 1)) dNil))) (dCons (dTup (dCons (dOp mulR (dOp ixR (dVar 8) (dC (.int 1))) (dC (.int 3))) (dCons (dC (.int 1)) dNil))) dNil)))) (dgName 9))
    (dSeq (dIfS (dB (dOp neR (dOp ixR (dCall s_u_law_trained (dCons (dVar 9) (dCons (dC (.int 9)) dNil))) (dC (.int 0))) (dLst (dCons (dTup (dCons (dOp ixR (dVar 8) (dC (.int 1))) (dCons (dOp ixR (dVar 8) (dC (.int 1))) dNil))) (dCons (dTup (dCons (dOp ixR (dVar 8) (dC (.int 0))) (dCons (dOp ixR (dVar 8) (dC (.int 0))) dNil))) (dCons (dTup (dCons (dOp ixR (dVar 8) (dC (.int 0))) (dCons (dOp ixR (dVar 8) (dC (.int 1))) dNil))) (dCons (dTup (dCons (dOp mulR (dOp ixR (dVar 8) (dC (.int 1))) (dC (.int 2))) (dCons (dOp ixR (dVar 8) (dC (.int 1))) dNil))) dNil)))))))
      (dRet (dC (.bl false)))
      dNext)
    (dSeq (dIfS (dOr (dNot (dB (dCall s_u_law_holds (dCons (dVar 8) (dCons (dVar 3) (dCons (dVar 9) (dCons (dC (.int 9)) dNil))))))) (dNot (dB (dCall s_u_law_holds (dCons (dVar 8) (dCons (dVar 3) (dCons (dCB tupleR (dCons (dLc (dIter (dVar 9)) (.many [11, 12]) dYes (dTup (dCons (dVar 11) (dCons (dC (.int 0)) dNil))) [11, 12]) dNil)) (dCons (dC (.int 2)) dNil))))))))
      (dRet (dC (.bl false)))
      dNext)
    (dSeq (dIfS (dOr (dNot (dB (dCall s_u_law_holds (dCons (dVar 8) (dCons (dVar 3) (dCons (dTup dNil) (dCons (dC (.int 5)) dNil))))))) (dNot (dB (dCall s_u_law_holds (dCons (dVar 8) (dCons (dVar 3) (dCons (dTup (dCons (dTup (dCons (dOp mulR (dOp ixR (dVar 8) (dC (.int 0))) (dOp addR (dC (.int 41)) (dCall s_u_law_draw (dCons (dVar 1) (dCons (dC (.int 40)) dNil))))) (dCons (dC (.int 1)) dNil))) dNil)) (dCons (dC (.int 16)) dNil))))))))
      (dRet (dC (.bl false)))
      dNext)
    (dSeq (dIfS (dB (dOp eqR (dCall s_u_law_draw (dCons (dVar 1) (dCons (dC (.int 13)) dNil))) (dC (.int 9))))
      (dSeq (dAsg (dCall s_u_law_letters (dCons (dVar 1) (dCons (dOp addR (dC (.int 2)) (dCall s_u_law_draw (dCons (dVar 1) (dCons (dC (.int 5)) dNil)))) dNil))) (dgName 10))
      (dIfS (dNot (dB (dCall s_u_law_holds (dCons (dVar 10) (dCons (dVar 3) (dCons (dCall s_u_law_wide (dCons (dVar 1) (dCons (dVar 10) dNil))) (dCons (dC (.int 16)) dNil)))))))
        (dRet (dC (.bl false)))
        dNext))
      dNext)
    (dRet (dCall s_u_law_holds (dCons (dVar 2) (dCons (dVar 3) (dCons (dVar 4) (dCons (dC (.int 4)) dNil)))))))))))))))))

end K

set_option Elab.async false
set_option linter.all false
set_option maxRecDepth 100000
set_option maxHeartbeats 2000000
namespace K
open PySem L2 DL
open PyProof.Rows hiding St signs inR
local macro_rules | `(tactic| walk_at "dl") => `(tactic| dsimp only [dSeq, dAsg, dgName, dVar, dC, dOp, dUn, dCB, dCons, dNil, dTup, dLst, dLstM, dNewK, dNewN, dRet, dRetN, dDrop, dIfS, dNext, dNever, dB, dAnd, dOr, dNot, dAndV, dOrV, dNotV, dIf, dMeth, dSl, dPart, dNoPart, dFor, dIter, dRange1, dRange2, dZip, dEnum, dLc, dLcM, dDc, dSortSet, dCall, dgSeq, dgSub, dgCons, dgNil, dPar, dAug, dBreak, dCont, dYes, endsD, slot, List.set_cons_zero, List.set_cons_succ, itemsD, listR, listRM, tupleR, viewL, viewS, dwipe, setAll, Shape.bind])
local macro_rules | `(tactic| walk_at "op") => `(tactic| ((first | refine eqR_int ?_ | refine eqR_str ?_ | refine eqR_bl ?_ | refine neR_int ?_ | refine neR_str ?_ | refine ltR_int ?_ | refine leR_int ?_ | refine gtR_int ?_ | refine geR_int ?_ | refine addR_int ?_ | refine addR_str ?_ ?_ | refine iaddR_int ?_ | refine subR_int ?_ | refine isNR_q ?_ | refine notNR_q ?_ | refine lenR_lst ?_ | refine lenR_tup ?_ | refine intCR_int ?_ | refine intCR_bl ?_ | refine absR_int ?_); (try dsimp only)))
def joinedOnce (l r : Str) : List Str → List Str
  | [] => []
  | [a] => [a]
  | a :: b :: t => if a = l ∧ b = r then (l ++ r) :: joinedOnce l r t else a :: joinedOnce l r (b :: t)
def sp_joined_once : DSp := fun ds M Q => ∃ (ps : List Str) (l r : Str), ds = [.lst (ps.map D.str), .str l, .str r] ∧ ps.length < 1000 ∧ l.length + r.length < 1000 ∧ Q (.lst ((joinedOnce l r ps).map D.str)) M
theorem drop_two {α : Type} {l : List α} {n : Nat} {x y : α} (h1 : l[n]? = some x) (h2 : l[n + 1]? = some y) : l.drop n = x :: y :: l.drop (n + 2) := by
  have a1 := (List.getElem?_eq_some_iff.mp h1)
  have a2 := (List.getElem?_eq_some_iff.mp h2)
  obtain ⟨b1, rfl⟩ := a1
  obtain ⟨b2, rfl⟩ := a2
  rw [List.drop_eq_getElem_cons b1, List.drop_eq_getElem_cons b2]
theorem dat_joined_once (ds : List D) (M : Store) (Q : DK) (h : sp_joined_once ds M Q) : t_joined_once (endsD M Q) (startD 5 ds) M := by
  obtain ⟨ps, l, r, rfl, hl, hs, q⟩ := h
  show t_joined_once (endsD M Q) [_, _, _, none, none] M
  unfold t_joined_once
  walk_at "dl"
  refine ⟨Nat.zero_le _, fun m ρ M' => ∃ (i : Nat) (acc : List Str), ρ = [some (.lst (ps.map D.str)), some (.str l), some (.str r), some (.ref M.length), some (.int i)] ∧ M' = M ++ [.lst (acc.map D.str)] ∧
    acc ++ joinedOnce l r (ps.drop i) = joinedOnce l r ps ∧ i ≤ ps.length ∧ m = ps.length - i ∧ acc.length ≤ i, ⟨_, 0, [], rfl, rfl, rfl, Nat.zero_le _, rfl, Nat.le_refl _⟩, ?_⟩
  rintro m ρ M' ⟨i, acc, rfl, rfl, e, hi, rfl, ha⟩
  have eM : (M ++ [MO.lst (acc.map D.str)])[M.length]? = some (.lst (acc.map D.str)) := get_at0 _ _
  have app : ∀ (y : Str) (Q' : DK), Q' .non (M ++ [.lst ((acc ++ [y]).map D.str)]) → appendR (.ref M.length) [.str y] (M ++ [MO.lst (acc.map D.str)]) Q' := fun y Q' h => by
    refine append_cell eM (by rw [List.length_map]; exact small (by omega)) ?_
    rw [set_at0]
    simpa using h
  walk_at "dl"
  walk_at "op"
  walk_at "op"
  simp only [List.length_map]
  refine ite_dec (fun h1 => ?_) (fun h1 => ?_)
  · have hlt : i < ps.length := by omega
    have ex : ps[i]? = some ps[i] := List.getElem?_eq_getElem hlt
    have one : ps[i] ≠ l ∨ ps[i + 1]? ≠ some r → ixR (.lst (ps.map D.str)) (.int i) (M ++ [MO.lst (acc.map D.str)]) fun x M1 => appendR (.ref M.length) [x] M1 fun x M1 =>
        DL.TurnOk (M ++ [MO.lst (acc.map D.str)]) [some (.lst (ps.map D.str)), some (.str l), some (.str r), some (.ref M.length), some (.int (i + 1))] M1 fun ρ'' M'' => ∃ m', m' < ps.length - i ∧ ∃ (i : Nat) (acc : List Str),
          ρ'' = [some (.lst (ps.map D.str)), some (.str l), some (.str r), some (.ref M.length), some (.int i)] ∧ M'' = M ++ [.lst (acc.map D.str)] ∧ acc ++ joinedOnce l r (ps.drop i) = joinedOnce l r ps ∧ i ≤ ps.length ∧ m' = ps.length - i ∧ acc.length ≤ i := fun hne => by
      refine ixR_lst ex (app _ _ (.inl ⟨ps.length - (i + 1), by omega, i + 1, acc ++ [ps[i]], rfl, rfl, ?_, by omega, rfl, by rw [List.length_append, List.length_singleton]; omega⟩))
      rw [← e, List.append_assoc, List.drop_eq_getElem_cons hlt]
      congr 1
      cases e2 : ps.drop (i + 1) with
      | nil => simp [joinedOnce]
      | cons b t =>
        have eb : ps[i + 1]? = some b := by
          have := List.getElem?_drop (xs := ps) (i := i + 1) (j := 0)
          rw [e2] at this
          simpa using this.symm
        have : ¬ (ps[i] = l ∧ b = r) := fun ⟨z1, z2⟩ => hne.elim (fun h => h z1) fun h => h (by rw [eb, z2])
        simp [joinedOnce, this]
    refine ixR_lst ex ?_
    try dsimp only
    walk_at "op"
    refine ite_dec (fun h2 => ?_) (fun h2 => ?_)
    · walk_at "op"
      walk_at "op"
      walk_at "op"
      simp only [List.length_map]
      refine ite_dec (fun h3 => ?_) (fun h3 => ?_)
      · have hlt1 : i + 1 < ps.length := by omega
        have ex1 : ps[i + 1]? = some ps[i + 1] := List.getElem?_eq_getElem hlt1
        walk_at "op"
        refine ixR_lst (n := i + 1) ex1 ?_
        try dsimp only
        walk_at "op"
        refine ite_dec (fun h4 => ?_) (fun h4 => ?_)
        · refine ⟨tyM_lst eM, ?_⟩
          walk_at "op"
          · exact small' (by omega)
          refine app _ _ ?_
          walk_at "op"
          refine .inl ⟨ps.length - (i + 2), by omega, i + 2, acc ++ [l ++ r], rfl, rfl, ?_, by omega, rfl, by rw [List.length_append, List.length_singleton]; omega⟩
          rw [← e, List.append_assoc, drop_two ex ex1, h2, h4]
          simp [joinedOnce]
        · exact ⟨tyM_lst eM, one (.inr (by rw [ex1]; simpa using h4))⟩
      · exact ⟨tyM_lst eM, one (.inr (by rw [List.getElem?_eq_none (by omega)]; simp))⟩
    · exact ⟨tyM_lst eM, one (.inl h2)⟩
  · have ei : i = ps.length := by omega
    subst ei
    rw [List.drop_length] at e
    simp only [joinedOnce, List.append_nil] at e
    subst e
    exact .lst (Nat.le_refl _) eM (belows_iff.mpr fun d hd => by obtain ⟨x, _, rfl⟩ := List.mem_map.mp hd; trivial) q
end K

set_option Elab.async false
set_option linter.all false
set_option maxRecDepth 100000
set_option maxHeartbeats 2000000
namespace K
open PySem L2 DL
open PyProof.Rows hiding St signs inR
local macro_rules | `(tactic| walk_at "dl") => `(tactic| dsimp only [dSeq, dAsg, dgName, dVar, dC, dOp, dUn, dCB, dCons, dNil, dTup, dLst, dLstM, dNewK, dNewN, dRet, dRetN, dDrop, dIfS, dNext, dNever, dB, dAnd, dOr, dNot, dAndV, dOrV, dNotV, dIf, dMeth, dSl, dPart, dNoPart, dFor, dIter, dRange1, dRange2, dZip, dEnum, dLc, dLcM, dDc, dSortSet, dCall, dgSeq, dgSub, dgCons, dgNil, dPar, dAug, dBreak, dCont, dYes, endsD, slot, List.set_cons_zero, List.set_cons_succ, itemsD, listR, listRM, tupleR, viewL, viewS, dwipe, setAll, Shape.bind])
local macro_rules | `(tactic| walk_at "op") => `(tactic| ((first | refine eqR_int ?_ | refine eqR_str ?_ | refine eqR_bl ?_ | refine neR_int ?_ | refine neR_str ?_ | refine ltR_int ?_ | refine leR_int ?_ | refine gtR_int ?_ | refine geR_int ?_ | refine addR_int ?_ | refine addR_str ?_ ?_ | refine iaddR_int ?_ | refine subR_int ?_ | refine isNR_q ?_ | refine notNR_q ?_ | refine lenR_lst ?_ | refine lenR_tup ?_ | refine intCR_int ?_ | refine intCR_bl ?_ | refine absR_int ?_); (try dsimp only)))
def sp_need_kind : DSp := fun ds M Q => ∃ (x : D) (xs : List D) (k : Str), ds = [.tup (.str k :: xs), .str k] ∧ Q .non M
theorem dat_need_kind (ds : List D) (M : Store) (Q : DK) (h : sp_need_kind ds M Q) : t_need_kind (endsD M Q) (startD 2 ds) M := by
  obtain ⟨x, xs, k, rfl, q⟩ := h
  show t_need_kind (endsD M Q) [_, _] M
  unfold t_need_kind
  walk_at "dl"
  refine ixR_tup (n := 0) rfl ?_
  walk_at "op"
  refine ite_ndec (fun h => (h rfl).elim) fun _ => .keep q
/-! the names of the pieces -/
def encS (f : List (Str × Str)) : List (Key × D) := f.map fun p => (Sum.inr p.1, D.str p.2)
theorem encS_get (f : List (Str × Str)) (k : Str) : aGet (encS f) (Sum.inr k) = (aGet f k).map D.str := aGet_map (fun a b h => Sum.inr.inj h) D.str k f
theorem encS_put (f : List (Str × Str)) (k v : Str) : aPut (encS f) (Sum.inr k) (.str v) = encS (aPut f k v) := aPut_map (fun a b h => Sum.inr.inj h) D.str k v f
def nm0 (z name : Str) : List (Str × Str) := (signs z).foldl (fun f c => aPut f c name) []
def nm (z name : Str) (rs : List (Str × Str)) : List (Str × Str) := rs.foldl (fun f p => aPut f (p.1 ++ p.2) name) (nm0 z name)
def ruleD (name : Str) (p : Str × Str) : D := .tup [.str p.1, .str p.2, .str name]
def joinsD (z name : Str) (rs : List (Str × Str)) : D := .tup [.str "joins", .str z, .str name, .tup (rs.map (ruleD name))]
theorem foldPut_len {α : Type} (c : α → Str) (name : Str) : ∀ (l : List α) (f : List (Str × Str)), (l.foldl (fun f x => aPut f (c x) name) f).length ≤ f.length + l.length
  | [], f => Nat.le_refl _
  | x :: l, f => by
    have h := foldPut_len c name l (aPut f (c x) name)
    have h2 := aPut_len f (c x) name
    rw [List.foldl_cons, List.length_cons]
    omega
def sp_piece_names : DSp := fun ds M Q => ∃ (z name : Str) (rs : List (Str × Str)), ds = [joinsD z name rs] ∧ z.length < 1000 ∧ rs.length < 1000 ∧ (∀ p ∈ rs, p.1.length + p.2.length < 1000) ∧ Q (.dk (encS (nm z name rs))) M
theorem signs_len (z : Str) : (signs z).length = z.length := by
  unfold signs
  rw [List.length_map, Array.length_toList]
  rfl
theorem dc_fold {sh : Shape} {vs : List Nat} {keep : Store → Prop} {tk tv : DTE} {ρ : Env'} {Q : List (Key × D) → Store → Prop} {M : Store} (kp : keep M) {γ : Type} (f : γ → D) (kf : γ → Key) (vf : γ → D) : ∀ (ls : List γ) (acc : List (Key × D)), acc.length + ls.length ≤ sizeLine →
    (∀ x ∈ ls, ∃ ρ2, sh.bind (f x) (dwipe ρ vs) = some ρ2 ∧ (∀ K : DK, K (kD' (kf x)) M → tk ρ2 M K) ∧ ∀ K : DK, K (vf x) M → tv ρ2 M K) → Q (ls.foldl (fun a x => aPut a (kf x) (vf x)) acc) M → dcGo sh vs keep dYes tk tv ρ (ls.map f) M acc Q
  | [], acc, hl, step, fin => ⟨kp, fin⟩
  | x :: ls, acc, hl, step, fin => by
    obtain ⟨ρ2, eb, h1, h2⟩ := step x (List.mem_cons_self ..)
    refine ⟨kp, ?_⟩
    rw [eb]
    unfold dYes
    dsimp only
    rw [if_pos rfl]
    rw [List.length_cons] at hl
    refine h1 _ (h2 _ ?_)
    have e : dkey (kD' (kf x)) = some (kf x) := by cases kf x <;> rfl
    rw [e]
    have := len_aPut acc (kf x) (vf x)
    exact ⟨by omega, dc_fold kp f kf vf ls _ (by omega) (fun y hy => step y (List.mem_cons_of_mem _ hy)) fin⟩
theorem nm0_enc (z name : Str) : (signs z).foldl (fun a x => aPut a (Sum.inr x : Key) (D.str name)) [] = encS (nm0 z name) := by
  have gen : ∀ (l : List Str) (f : List (Str × Str)), l.foldl (fun a x => aPut a (Sum.inr x : Key) (D.str name)) (encS f) = encS (l.foldl (fun f c => aPut f c name) f) := fun l => by
    induction l with
    | nil => exact fun f => rfl
    | cons x l ih =>
      intro f
      rw [List.foldl_cons, List.foldl_cons, encS_put]
      exact ih _
  exact gen (signs z) []
theorem dat_piece_names (ds : List D) (M : Store) (Q : DK) (h : sp_piece_names ds M Q) : t_piece_names (endsD M Q) (startD 6 ds) M := by
  obtain ⟨z, name, rs, rfl, hz, hr, hb, q⟩ := h
  show t_piece_names (endsD M Q) [some (.tup _), none, none, none, none, none] M
  unfold t_piece_names
  walk_at "dl"
  refine ixR_tup (n := 1) rfl ?_
  dsimp only
  refine dc_fold trivial D.str (fun c => Sum.inr c) (fun _ => D.str name) (signs z) [] (small' (by rw [signs_len, List.length_nil]; omega)) (fun c hc => ⟨_, rfl, fun K k => k, fun K k => by
    walk_at "dl"
    exact ixR_tup (n := 2) rfl k⟩) ?_
  rw [nm0_enc]
  try walk_at "dl"
  refine ixR_tup (n := 3) rfl ?_
  dsimp only
  have L0 : (nm0 z name).length ≤ z.length := by
    have := foldPut_len (fun c => c) name (signs z) []
    rw [signs_len, List.length_nil] at this
    unfold nm0
    omega
  refine for_inv (fun i ρ M' => ∃ a b c e, ρ = [some (joinsD z name rs), some (.ref M.length), a, b, c, e] ∧ M' = M ++ [.dk (encS ((rs.take i).foldl (fun f p => aPut f (p.1 ++ p.2) name) (nm0 z name)))]) ⟨none, none, none, none, rfl, rfl⟩ ?_ ?_
  · rintro i x ρ M' ex ⟨a, b, c, e, rfl, rfl⟩
    rw [List.getElem?_map] at ex
    obtain ⟨p, ep, rfl⟩ := Option.map_eq_some_iff.mp ex
    refine ⟨trivial, fun go k => ?_⟩
    rw [show ruleD name p = .tup [.str p.1, .str p.2, .str name] from rfl]
    walk_at "dl"
    refine ⟨rfl, rfl, ?_⟩
    have hp := hb p (List.mem_of_getElem? ep)
    walk_at "op"
    · exact small' (by omega)
    have hi : i < rs.length := (List.getElem?_eq_some_iff.mp ep).1
    have hl := foldPut_len (fun p : Str × Str => p.1 ++ p.2) name (rs.take i) (nm0 z name)
    rw [List.length_take] at hl
    refine setR_dk (k := Sum.inr (p.1 ++ p.2)) (get_at0 _ _) rfl (by unfold encS; rw [List.length_map]; exact small (by omega)) ?_
    rw [set_at0, encS_put]
    refine .inl (k _ _ ⟨_, _, _, _, rfl, ?_⟩)
    have et : rs.take (i + 1) = rs.take i ++ [p] := by rw [List.take_add_one, ep]; rfl
    rw [et, List.foldl_append]
    rfl
  · rintro ρ M' ⟨a, b, c, e, rfl, rfl⟩
    refine ⟨trivial, ?_⟩
    walk_at "dl"
    rw [List.length_map, List.take_length]
    refine .dk (Nat.le_refl _) (get_at0 _ _) (belowK_iff.mpr fun d hd => ?_) q
    obtain ⟨x, _, rfl⟩ := List.mem_map.mp hd
    trivial
def finalRow (rs : List (Str × Str)) (row : List Str) : List Str := rs.foldl (fun row p => joinedOnce p.1 p.2 row) row
theorem joinedOnce_len (l r : Str) : ∀ ps : List Str, (joinedOnce l r ps).length ≤ ps.length
  | [] => Nat.le_refl _
  | [a] => Nat.le_refl _
  | a :: b :: t => by
    unfold joinedOnce
    split
    · have := joinedOnce_len l r t
      simp only [List.length_cons]
      omega
    · have := joinedOnce_len l r (b :: t)
      simp only [List.length_cons] at this ⊢
      omega
theorem finalRow_len : ∀ (rs : List (Str × Str)) (row : List Str), (finalRow rs row).length ≤ row.length
  | [], row => Nat.le_refl _
  | p :: rs, row => Nat.le_trans (finalRow_len rs _) (joinedOnce_len _ _ _)
def sp_joined_pieces : DSp := fun ds M Q => ∃ (z name : Str) (rs : List (Str × Str)), ds = [.tup (rs.map (ruleD name)), .str z] ∧ z.length < 1000 ∧ (∀ p ∈ rs, p.1.length + p.2.length < 1000) ∧ Q (.lst ((finalRow rs (signs z)).map D.str)) M
theorem dat_joined_pieces (ds : List D) (M : Store) (Q : DK) (h : sp_joined_pieces ds M Q) : t_joined_pieces sp_joined_once (endsD M Q) (startD 6 ds) M := by
  obtain ⟨z, name, rs, rfl, hz, hb, q⟩ := h
  show t_joined_pieces sp_joined_once (endsD M Q) [_, _, none, none, none, none] M
  unfold t_joined_pieces
  walk_at "dl"
  rw [if_pos (small' (by omega))]
  walk_at "dl"
  refine for_inv (fun i ρ M' => ∃ a b c, ρ = [some (.tup (rs.map (ruleD name))), some (.str z), some (.lst ((finalRow (rs.take i) (signs z)).map D.str)), a, b, c] ∧ M' = M) ⟨none, none, none, rfl, rfl⟩ ?_ ?_
  · rintro i x ρ M' ex ⟨a, b, c, rfl, rfl⟩
    rw [List.getElem?_map] at ex
    obtain ⟨p, ep, rfl⟩ := Option.map_eq_some_iff.mp ex
    refine ⟨trivial, fun go k => ?_⟩
    rw [show ruleD name p = .tup [.str p.1, .str p.2, .str name] from rfl]
    walk_at "dl"
    refine ⟨rfl, rfl, ?_⟩
    have hp := hb p (List.mem_of_getElem? ep)
    have hl := finalRow_len (rs.take i) (signs z)
    rw [signs_len] at hl
    have et : rs.take (i + 1) = rs.take i ++ [p] := by rw [List.take_add_one, ep]; rfl
    have ef : finalRow (rs.take (i + 1)) (signs z) = joinedOnce p.1 p.2 (finalRow (rs.take i) (signs z)) := by
      rw [et]
      unfold finalRow
      rw [List.foldl_append]
      rfl
    exact ⟨finalRow (rs.take i) (signs z), p.1, p.2, rfl, by omega, hp, .inl (k _ _ ⟨some (.str p.1), some (.str p.2), some (.str name), by rw [ef], rfl⟩)⟩
  · rintro ρ M' ⟨a, b, c, rfl, rfl⟩
    refine ⟨trivial, ?_⟩
    walk_at "dl"
    rw [List.length_map, List.take_length]
    exact .keep q
end K

set_option Elab.async false
set_option linter.all false
set_option maxRecDepth 100000
set_option maxHeartbeats 2000000
namespace K
open PySem L2 DL
open PyProof.Rows hiding St signs inR
local macro_rules | `(tactic| walk_at "dl") => `(tactic| dsimp only [dSeq, dAsg, dgName, dVar, dC, dOp, dUn, dCB, dCons, dNil, dTup, dLst, dLstM, dNewK, dNewN, dRet, dRetN, dDrop, dIfS, dNext, dNever, dB, dAnd, dOr, dNot, dAndV, dOrV, dNotV, dIf, dMeth, dSl, dPart, dNoPart, dFor, dIter, dRange1, dRange2, dZip, dEnum, dLc, dLcM, dDc, dSortSet, dCall, dgSeq, dgSub, dgCons, dgNil, dPar, dAug, dBreak, dCont, dYes, endsD, slot, List.set_cons_zero, List.set_cons_succ, itemsD, listR, listRM, tupleR, viewL, viewS, DL.intOf, dwipe, setAll, Shape.bind])
local macro_rules | `(tactic| walk_at "op") => `(tactic| ((first | refine eqR_int ?_ | refine eqR_str ?_ | refine eqR_bl ?_ | refine neR_int ?_ | refine neR_str ?_ | refine ltR_int ?_ | refine leR_int ?_ | refine gtR_int ?_ | refine geR_int ?_ | refine addR_int ?_ | refine addR_str ?_ ?_ | refine iaddR_int ?_ | refine subR_int ?_ | refine isNR_q ?_ | refine notNR_q ?_ | refine lenR_lst ?_ | refine lenR_tup ?_ | refine intCR_int ?_ | refine intCR_bl ?_ | refine absR_int ?_); (try dsimp only)))
theorem foldPut_get {α : Type} (c : α → Str) (name k : Str) : ∀ (l : List α) (f : List (Str × Str)), (aGet f k = some name ∨ ∃ x ∈ l, c x = k) → aGet (l.foldl (fun f x => aPut f (c x) name) f) k = some name
  | [], f, h => h.elim id fun ⟨x, hx, _⟩ => by cases hx
  | x :: l, f, h => by
    rw [List.foldl_cons]
    refine foldPut_get c name k l _ ?_
    rw [aGet_aPut]
    by_cases e : c x = k
    · rw [if_pos e]
      exact .inl rfl
    · rw [if_neg e]
      rcases h with h | ⟨y, hy, ey⟩
      · exact .inl h
      · rcases List.mem_cons.mp hy with z | z
        · rw [z] at ey
          exact (e ey).elim
        · exact .inr ⟨y, z, ey⟩
theorem nm_get {z name k : Str} {rs : List (Str × Str)} (h : k ∈ signs z ∨ ∃ p ∈ rs, p.1 ++ p.2 = k) : aGet (nm z name rs) k = some name := by
  refine foldPut_get (fun p : Str × Str => p.1 ++ p.2) name k rs _ ?_
  refine h.imp (fun h => ?_) id
  exact foldPut_get (fun c => c) name k (signs z) [] (.inr ⟨k, h, rfl⟩)
theorem joinedOnce_mem {l r x : Str} : ∀ {ps : List Str}, x ∈ joinedOnce l r ps → x ∈ ps ∨ (x = l ++ r ∧ l ∈ ps ∧ r ∈ ps)
  | [], h => .inl h
  | [a], h => .inl h
  | a :: b :: t, h => by
    unfold joinedOnce at h
    split at h
    · rename_i e
      rcases List.mem_cons.mp h with z | z
      · exact .inr ⟨z, by rw [e.1]; simp, by rw [e.2]; simp⟩
      · rcases joinedOnce_mem z with q | ⟨q, q1, q2⟩
        · exact .inl (by simp [q])
        · exact .inr ⟨q, by simp [q1], by simp [q2]⟩
    · rcases List.mem_cons.mp h with z | z
      · exact .inl (by simp [z])
      · rcases joinedOnce_mem z with q | ⟨q, q1, q2⟩
        · exact .inl (List.mem_cons_of_mem _ q)
        · exact .inr ⟨q, List.mem_cons_of_mem _ q1, List.mem_cons_of_mem _ q2⟩
theorem finalRow_mem {x : Str} : ∀ {rs : List (Str × Str)} {row : List Str}, x ∈ finalRow rs row → x ∈ row ∨ ∃ p ∈ rs, p.1 ++ p.2 = x
  | [], row, h => .inl h
  | p :: rs, row, h => by
    rcases finalRow_mem (rs := rs) (row := joinedOnce p.1 p.2 row) h with h | ⟨q, hq, e⟩
    · rcases joinedOnce_mem h with h | ⟨h, _⟩
      · exact .inl h
      · exact .inr ⟨p, List.mem_cons_self .., h.symm⟩
    · exact .inr ⟨q, List.mem_cons_of_mem _ hq, e⟩
def sp_join_cut : DSp := fun ds M Q => ∃ (z name t : Str) (rs : List (Str × Str)), ds = [joinsD z name rs, .str t] ∧ z.length < 1000 ∧ t.length < 1000 ∧ rs.length < 1000 ∧ (∀ p ∈ rs, p.1.length + p.2.length < 1000) ∧ (∀ c ∈ signs t, c ∈ signs z) ∧
  Q (.tup ((finalRow rs (signs t)).map fun p => .tup [.str p, .str name])) M
theorem dat_join_cut (ds : List D) (M : Store) (Q : DK) (h : sp_join_cut ds M Q) : t_join_cut sp_need_kind sp_piece_names sp_joined_pieces (endsD M Q) (startD 4 ds) M := by
  obtain ⟨z, name, t, rs, rfl, hz, ht, hr, hb, hc, q⟩ := h
  show t_join_cut _ _ _ (endsD M Q) [some (joinsD z name rs), some (.str t), none, none] M
  unfold t_join_cut
  walk_at "dl"
  refine ⟨.non, _, _, rfl, ?_⟩
  refine ⟨z, name, rs, rfl, hz, hr, hb, ?_⟩
  refine ixR_tup (n := 3) rfl ?_
  refine ⟨t, name, rs, rfl, ht, hb, ?_⟩
  dsimp only
  refine lc_map (sh := .one 3) ?_ D.str (fun p => .tup [.str p, .str name]) (finalRow rs (signs t)) (small' ?_) (fun x hx => ⟨_, rfl, fun K k => ?_⟩) ?_
  · rfl
  · have := finalRow_len rs (signs t)
    rw [signs_len] at this
    omega
  · walk_at "dl"
    refine ixR_dk (k := Sum.inr x) rfl (x := .str name) ?_ ⟨(by show 2 ≤ sizeLine; decide), k⟩
    rw [encS_get, nm_get ((finalRow_mem hx).imp (fun h => hc x h) id)]
    rfl
  · exact .keep q

/-! ### the pairs and their counts -/
abbrev Pair := Str × Str
def kP (p : Pair) : NestedKey := .tup [.text p.1, .text p.2]
theorem kP_inj (a b : Pair) (h : kP a = kP b) : a = b := by
  unfold kP at h
  simp only [NestedKey.tup.injEq, List.cons.injEq, NestedKey.text.injEq, and_true] at h
  exact Prod.ext h.1 h.2
theorem tkey_P (a b : Str) : tkey (.tup [.str a, .str b]) = some (kP (a, b)) := rfl
theorem depth_P (p : Pair) : (kP p).depth ≤ 8 := by
  exact of_decide_eq_true rfl
abbrev F := List (Pair × Int)
def encF (f : F) : List (NestedKey × D) := f.map fun p => (kP p.1, D.int p.2)
theorem encF_get (f : F) (k : Pair) : aGet (encF f) (kP k) = (aGet f k).map D.int := aGet_map kP_inj D.int k f
theorem encF_put (f : F) (k : Pair) (v : Int) : aPut (encF f) (kP k) (.int v) = encF (aPut f k v) := aPut_map kP_inj D.int k v f
abbrev Tk := List (Str × Bool)
def encT (f : Tk) : List (Key × D) := f.map fun p => (Sum.inr p.1, D.bl p.2)
theorem encT_get (f : Tk) (k : Str) : aGet (encT f) (Sum.inr k) = (aGet f k).map D.bl := aGet_map (fun a b h => Sum.inr.inj h) D.bl k f
theorem encT_put (f : Tk) (k : Str) (v : Bool) : aPut (encT f) (Sum.inr k) (.bl v) = encT (aPut f k v) := aPut_map (fun a b h => Sum.inr.inj h) D.bl k v f
def bump (tk : Tk) (c : Int) (f : F) (p : Pair) : F := if (aGet tk (p.1 ++ p.2)).isSome then f else aPut f p ((aGet f p).getD 0 + c)
def pairsOf (ps : List Str) : List Pair := ps.zip ps.tail
def addRow (tk : Tk) (f : F) (rc : List Str × Int) : F := (pairsOf rc.1).foldl (bump tk rc.2) f
def countF (tk : Tk) (rcs : List (List Str × Int)) : F := rcs.foldl (addRow tk) []
theorem bump_len (tk : Tk) (c : Int) (f : F) (p : Pair) : (bump tk c f p).length ≤ f.length + 1 := by
  unfold bump
  split
  · omega
  · exact aPut_len _ _ _
theorem bumps_len (tk : Tk) (c : Int) : ∀ (l : List Pair) (f : F), (l.foldl (bump tk c) f).length ≤ f.length + l.length
  | [], f => Nat.le_refl _
  | p :: l, f => by
    have h := bumps_len tk c l (bump tk c f p)
    have h2 := bump_len tk c f p
    rw [List.foldl_cons, List.length_cons]
    omega
theorem pairsOf_len (ps : List Str) : (pairsOf ps).length ≤ ps.length := by
  unfold pairsOf
  rw [List.length_zip]
  omega
theorem rows_len (tk : Tk) : ∀ (l : List (List Str × Int)) (f : F), (∀ x ∈ l, x.1.length < 1000) → (l.foldl (addRow tk) f).length ≤ f.length + l.length * 1000
  | [], f, _ => by simp
  | x :: l, f, h => by
    have h1 := rows_len tk l (addRow tk f x) fun y hy => h y (List.mem_cons_of_mem _ hy)
    have h2 := bumps_len tk x.2 (pairsOf x.1) f
    have h3 := pairsOf_len x.1
    have h4 := h x (List.mem_cons_self ..)
    have h5 : (addRow tk f x).length ≤ f.length + 1000 := by
      unfold addRow
      omega
    rw [List.foldl_cons, List.length_cons]
    omega
/-- the rows: their pieces, joined no longer than 1000 two by two -/
def RowOk (ps : List Str) : Prop := ps.length < 1000 ∧ ∀ p ∈ pairsOf ps, p.1.length + p.2.length < 1000
def rowD (ps : List Str) : D := .lst (ps.map D.str)
def sp_pair_counts : DSp := fun ds M Q => ∃ (rcs : List (List Str × Int)) (tk : Tk) (n : Nat), ds = [.lst (rcs.map fun x => rowD x.1), .lst (rcs.map fun x => .int x.2), .ref n] ∧ M[n]? = some (.dk (encT tk)) ∧ rcs.length < 1000 ∧ (∀ x ∈ rcs, RowOk x.1) ∧
  Q (.dn (encF (countF tk rcs))) M
theorem zipD_map {α : Type} (f g : α → D) (l : List α) : zipD (l.map f) (l.map g) = l.map fun x => .tup [f x, g x] := by
  unfold zipD
  induction l with
  | nil => rfl
  | cons x l ih => simp [ih]
theorem zipD_pairs (ps : List Str) : zipD (ps.map D.str) ((ps.map D.str).tail) = (pairsOf ps).map fun p => .tup [.str p.1, .str p.2] := by
  unfold zipD pairsOf
  rw [← List.map_tail]
  generalize ps.tail = qs
  induction ps generalizing qs with
  | nil => rfl
  | cons x l ih =>
    cases qs with
    | nil => rfl
    | cons y qs => simp [ih]
theorem dat_pair_counts (ds : List D) (M : Store) (Q : DK) (h : sp_pair_counts ds M Q) : t_pair_counts (endsD M Q) (startD 8 ds) M := by
  obtain ⟨rcs, tk, n, rfl, eM, hl, hok, q⟩ := h
  show t_pair_counts (endsD M Q) [_, _, _, none, none, none, none, none] M
  unfold t_pair_counts
  walk_at "dl"
  rw [zipD_map]
  have hn : n < M.length := (List.getElem?_eq_some_iff.mp eM).1
  have gM : ∀ G : Store, (M ++ G)[n]? = some (.dk (encT tk)) := fun G => by rw [List.getElem?_append_left hn]; exact eM
  refine for_inv (fun i ρ M' => ∃ a b c e, ρ = [some (.lst (rcs.map fun x => rowD x.1)), some (.lst (rcs.map fun x => .int x.2)), some (.ref n), some (.ref M.length), a, b, c, e] ∧ M' = M ++ [.dn (encF ((rcs.take i).foldl (addRow tk) []))]) ⟨none, none, none, none, rfl, rfl⟩ ?_ ?_
  · rintro i x ρ M' ex ⟨a, b, c, e, rfl, rfl⟩
    rw [List.getElem?_map] at ex
    obtain ⟨rc, ep, rfl⟩ := Option.map_eq_some_iff.mp ex
    have hi : i < rcs.length := (List.getElem?_eq_some_iff.mp ep).1
    have rok := hok rc (List.mem_of_getElem? ep)
    refine ⟨⟨rfl, rfl⟩, fun go k => ?_⟩
    unfold rowD
    walk_at "dl"
    refine ⟨rfl, rfl, ?_⟩
    refine sliceR_lst ?_
    try dsimp only
    rw [cutD_tail]
    try dsimp only
    rw [zipD_pairs]
    have L0 := rows_len tk (rcs.take i) [] fun y hy => (hok y (List.mem_of_mem_take hy)).1
    rw [List.length_take, List.length_nil] at L0
    refine for_inv (fun j ρ M' => ∃ c e, ρ = [some (.lst (rcs.map fun x => rowD x.1)), some (.lst (rcs.map fun x => .int x.2)), some (.ref n), some (.ref M.length), some (rowD rc.1), some (.int rc.2), c, e] ∧
      M' = M ++ [.dn (encF (((pairsOf rc.1).take j).foldl (bump tk rc.2) ((rcs.take i).foldl (addRow tk) [])))]) ⟨_, _, rfl, rfl⟩ ?_ ?_
    · rintro j x ρ M' ex ⟨c, e, rfl, rfl⟩
      rw [List.getElem?_map] at ex
      obtain ⟨p, epp, rfl⟩ := Option.map_eq_some_iff.mp ex
      have hj : j < (pairsOf rc.1).length := (List.getElem?_eq_some_iff.mp epp).1
      have hp := rok.2 p (List.mem_of_getElem? epp)
      refine ⟨⟨rfl, rfl⟩, fun go k => ?_⟩
      have et : (pairsOf rc.1).take (j + 1) = (pairsOf rc.1).take j ++ [p] := by rw [List.take_add_one, epp]; rfl
      have L1 := bumps_len tk rc.2 ((pairsOf rc.1).take j) ((rcs.take i).foldl (addRow tk) [])
      rw [List.length_take] at L1
      have L2 := pairsOf_len rc.1
      have L3 := rok.1
      walk_at "dl"
      refine ⟨rfl, rfl, ?_⟩
      walk_at "op"
      · exact small' (by omega)
      refine notInR_at (dGet_dk (k := Sum.inr (p.1 ++ p.2)) (gM _) rfl) ?_
      dsimp only
      rw [encT_get, Option.isSome_map]
      refine ite_nbool (fun h => ?_) (fun h => ?_)
      · refine ⟨tyM_dn (get_at0 _ _), (by show 2 ≤ sizeLine; decide), ?_⟩
        refine getOr_at (dGet_dn (k := kP p) (get_at0 _ _) (tkey_P _ _) (depth_P p)) ?_
        rw [encF_get]
        have eg : ∀ (o : Option Int), (o.map D.int).getD (.int 0) = .int (o.getD 0) := fun o => by cases o <;> rfl
        rw [eg]
        walk_at "op"
        refine ⟨(by show 2 ≤ sizeLine; decide), ?_⟩
        refine setR_dn (k := kP p) (get_at0 _ _) (tkey_P _ _) (depth_P p) (by unfold encF; rw [List.length_map]; exact small (by omega)) ?_
        rw [set_at0, encF_put]
        refine .inl (k _ _ ⟨_, _, rfl, ?_⟩)
        rw [et, List.foldl_append]
        show M ++ [MO.dn _] = M ++ [MO.dn (encF (bump tk rc.2 _ p))]
        unfold bump
        rw [if_neg (by rw [h]; exact Bool.false_ne_true)]
      · refine .inl (k _ _ ⟨_, _, rfl, ?_⟩)
        rw [et, List.foldl_append]
        show _ = M ++ [MO.dn (encF (bump tk rc.2 _ p))]
        unfold bump
        rw [if_pos h]
    · rintro ρ M' ⟨c, e, rfl, rfl⟩
      refine ⟨⟨rfl, rfl⟩, .inl (k _ _ ⟨_, _, _, _, rfl, ?_⟩)⟩
      have et : rcs.take (i + 1) = rcs.take i ++ [rc] := by rw [List.take_add_one, ep]; rfl
      rw [List.length_map, List.take_length, et, List.foldl_append]
      rfl
  · rintro ρ M' ⟨a, b, c, e, rfl, rfl⟩
    refine ⟨⟨rfl, rfl⟩, ?_⟩
    walk_at "dl"
    rw [List.length_map, List.take_length]
    refine .dn (Nat.le_refl _) (get_at0 _ _) (belowN_iff.mpr fun d hd => ?_) q
    obtain ⟨x, _, rfl⟩ := List.mem_map.mp hd
    trivial
end K

set_option Elab.async false
set_option linter.all false
set_option maxRecDepth 100000
set_option maxHeartbeats 2000000
namespace K
open PySem L2 DL
open PyProof.Rows hiding St signs inR
local macro_rules | `(tactic| walk_at "dl") => `(tactic| dsimp only [dSeq, dAsg, dgName, dVar, dC, dOp, dUn, dCB, dCons, dNil, dTup, dLst, dLstM, dNewK, dNewN, dRet, dRetN, dDrop, dIfS, dNext, dNever, dB, dAnd, dOr, dNot, dAndV, dOrV, dNotV, dIf, dMeth, dSl, dPart, dNoPart, dFor, dIter, dRange1, dRange2, dZip, dEnum, dLc, dLcM, dDc, dSortSet, dCall, dgSeq, dgSub, dgCons, dgNil, dPar, dAug, dBreak, dCont, dYes, endsD, slot, List.set_cons_zero, List.set_cons_succ, itemsD, listR, listRM, tupleR, viewL, viewS, DL.intOf, dwipe, setAll, Shape.bind])
local macro_rules | `(tactic| walk_at "op") => `(tactic| ((first | refine eqR_int ?_ | refine eqR_str ?_ | refine eqR_bl ?_ | refine neR_int ?_ | refine neR_str ?_ | refine ltR_int ?_ | refine leR_int ?_ | refine gtR_int ?_ | refine geR_int ?_ | refine addR_int ?_ | refine addR_str ?_ ?_ | refine iaddR_int ?_ | refine subR_int ?_ | refine isNR_q ?_ | refine notNR_q ?_ | refine lenR_lst ?_ | refine lenR_tup ?_ | refine intCR_int ?_ | refine intCR_bl ?_ | refine absR_int ?_); (try dsimp only)))
def pD (p : Pair) : D := .tup [.str p.1, .str p.2]
def pairD : Option Pair → D
  | none => .non
  | some p => pD p
def encP (p : Pair) : PyData := .tuple [.str p.1, .str p.2]
def sortP (ks : List Pair) : List Pair := ks.mergeSort (PySem.W.dataLe false encP)
def pickStep (f : F) (bm : Option Pair × Int) (k : Pair) : Option Pair × Int := if bm.2 < (aGet f k).getD 0 then (some k, (aGet f k).getD 0) else bm
def pickF (f : F) (ks : List Pair) : Option Pair × Int := ks.foldl (pickStep f) (none, 0)
def chosen (f : F) : Option Pair := (pickF f (sortP (f.map (·.1)))).1
theorem sortP_mem {ks : List Pair} {k : Pair} : k ∈ sortP ks ↔ k ∈ ks := (List.mergeSort_perm _ _).mem_iff
theorem sortP_len (ks : List Pair) : (sortP ks).length = ks.length := (List.mergeSort_perm _ _).length_eq
theorem aGet_key {κ α : Type} [DecidableEq κ] {k : κ} : ∀ {f : List (κ × α)}, k ∈ f.map (·.1) → ∃ v, aGet f k = some v
  | [], h => by cases h
  | p :: r, h => by
    rw [aGet_cons]
    by_cases e : p.1 = k
    · rw [if_pos e]; exact ⟨_, rfl⟩
    · rw [if_neg e]
      rcases List.mem_cons.mp h with z | z
      · exact (e z.symm).elim
      · exact aGet_key z
theorem srtP (M : Store) (ks : List Pair) (hl : ks.length ≤ sizeLine) : SrtOk M ks pD encP where
  py := fun p _ => .tup (.cons (.str _) (.cons (.str _) .nil))
  al := fun d hd d' hd' => by
    obtain ⟨a, _, rfl⟩ := List.mem_map.mp hd
    obtain ⟨b, _, rfl⟩ := List.mem_map.mp hd'
    rfl
  so := .inl fun d hd => by
    obtain ⟨a, _, rfl⟩ := List.mem_map.mp hd
    exact ⟨_, _, rfl⟩
  len := hl
  dep := fun p _ => of_decide_eq_true rfl
theorem src_F (M : Store) (f : F) : srcD M (.dn (encF f)) = some ((f.map (·.1)).map pD) := by
  show some ((encF f).map fun p => kD p.1) = _
  unfold encF
  rw [List.map_map, List.map_map]
  rfl
theorem sorted_F {f : F} {M : Store} {Q : DK} (hl : f.length ≤ sizeLine) (q : Q (.lst ((sortP (f.map (·.1))).map pD)) M) : sortedR [.dn (encF f)] M Q :=
  ⟨Pair, f.map fun x : Pair × Int => x.1, pD, encP, src_F M f, srtP M _ (by rw [List.length_map]; exact hl), q⟩
theorem found_at {f : F} {k : Pair} {v : Int} {M : Store} {Q : DK} (h : aGet f k = some v) (q : Q (.int v) M) : ixR (.dn (encF f)) (pD k) M Q :=
  ixR_dn (k := kP k) (tkey_P _ _) (depth_P k) (by rw [encF_get, h]; rfl) q
def sp_chosen_pair : DSp := fun ds M Q => ∃ f : F, ds = [.dn (encF f)] ∧ f.length < 10000000 ∧ Q (pairD (chosen f)) M
theorem dat_chosen_pair (ds : List D) (M : Store) (Q : DK) (h : sp_chosen_pair ds M Q) : t_chosen_pair (endsD M Q) (startD 4 ds) M := by
  obtain ⟨f, rfl, hl, q⟩ := h
  show t_chosen_pair (endsD M Q) [_, none, none, none] M
  unfold t_chosen_pair
  walk_at "dl"
  refine sorted_F (small' (by omega)) ?_
  try dsimp only
  refine for_inv (fun i ρ M' => ∃ a, ρ = [some (.dn (encF f)), some (pairD (pickF f ((sortP (f.map (·.1))).take i)).1), some (.int (pickF f ((sortP (f.map (·.1))).take i)).2), a] ∧ M' = M) ⟨none, rfl, rfl⟩ ?_ ?_
  · rintro i x ρ M' ex ⟨a, rfl, rfl⟩
    rw [List.getElem?_map] at ex
    obtain ⟨k, ek, rfl⟩ := Option.map_eq_some_iff.mp ex
    refine ⟨by rfl, fun go kk => ?_⟩
    have et : (sortP (f.map (·.1))).take (i + 1) = (sortP (f.map (·.1))).take i ++ [k] := by rw [List.take_add_one, ek]; rfl
    have est : pickF f ((sortP (f.map (·.1))).take (i + 1)) = pickStep f (pickF f ((sortP (f.map (·.1))).take i)) k := by
      rw [et]
      unfold pickF
      rw [List.foldl_append]
      rfl
    obtain ⟨v, ev⟩ := aGet_key (sortP_mem.mp (List.mem_of_getElem? ek))
    walk_at "dl"
    refine found_at ev ?_
    try dsimp only
    refine gtR_int ?_
    try dsimp only
    refine ite_dec (fun h => ?_) (fun h => ?_)
    · refine found_at ev ?_
      refine .inl (kk _ _ ⟨some (pD k), ?_, rfl⟩)
      rw [est]
      unfold pickStep
      rw [ev, if_pos (show _ < (some v).getD 0 from h)]
      rfl
    · refine .inl (kk _ _ ⟨some (pD k), ?_, rfl⟩)
      rw [est]
      unfold pickStep
      rw [ev, if_neg (show ¬ _ < (some v).getD 0 from h)]
  · rintro ρ M' ⟨a, rfl, rfl⟩
    refine ⟨by rfl, ?_⟩
    walk_at "dl"
    rw [List.length_map, List.take_length]
    exact .keep q

/-! ### the training -/
abbrev Rcs := List (List Str × Int)
def stepRows (p : Pair) (rcs : Rcs) : Rcs := rcs.map fun x => (joinedOnce p.1 p.2 x.1, x.2)
def train : Nat → Rcs → Tk → List (Option Pair × F)
  | 0, _, _ => []
  | n + 1, rcs, tk => (chosen (countF tk rcs), countF tk rcs) :: match chosen (countF tk rcs) with
    | none => []
    | some p => train n (stepRows p rcs) (aPut tk (p.1 ++ p.2) true)
def tot (ps : List Str) : Nat := (ps.map (·.length)).sum
theorem len_app (a b : Str) : (a ++ b).length = a.length + b.length := by
  show (a.cps ++ b.cps).size = _
  rw [Array.size_append]
  rfl
theorem tot_joined (l r : Str) : ∀ ps : List Str, tot (joinedOnce l r ps) = tot ps
  | [] => rfl
  | [a] => rfl
  | a :: b :: t => by
    unfold joinedOnce
    split
    · rename_i e
      have := tot_joined l r t
      unfold tot at this ⊢
      simp only [List.map_cons, List.sum_cons, this, len_app, e.1, e.2]
      omega
    · have := tot_joined l r (b :: t)
      unfold tot at this ⊢
      simp only [List.map_cons, List.sum_cons] at this ⊢
      omega
theorem tot_signs (z : Str) : tot (signs z) = z.length := by
  unfold tot
  have : (signs z).map (·.length) = List.replicate z.length 1 := by
    unfold signs
    rw [List.map_map]
    apply List.ext_getElem
    · rw [List.length_map, Array.length_toList, List.length_replicate]
      rfl
    · intro i h1 h2
      rw [List.getElem_map, List.getElem_replicate]
      rfl
  rw [this]
  simp
theorem pairs_tot {p : Pair} : ∀ {ps : List Str}, p ∈ pairsOf ps → p.1.length + p.2.length ≤ tot ps
  | [], h => by cases h
  | [a], h => by cases h
  | a :: b :: t, h => by
    have h : p ∈ (a, b) :: pairsOf (b :: t) := h
    rcases List.mem_cons.mp h with z | z
    · subst z
      unfold tot
      simp only [List.map_cons, List.sum_cons]
      omega
    · have := pairs_tot z
      unfold tot at this ⊢
      simp only [List.map_cons, List.sum_cons] at this ⊢
      omega
def RowT (ps : List Str) : Prop := ps.length < 1000 ∧ tot ps < 1000
theorem RowT.ok {ps : List Str} (h : RowT ps) : RowOk ps := ⟨h.1, fun p hp => Nat.lt_of_le_of_lt (pairs_tot hp) h.2⟩
theorem RowT.step {ps : List Str} (h : RowT ps) (p : Pair) : RowT (joinedOnce p.1 p.2 ps) := ⟨Nat.lt_of_le_of_lt (joinedOnce_len _ _ _) h.1, by rw [tot_joined]; exact h.2⟩
theorem RowT.start {z : Str} (h : z.length < 1000) : RowT (signs z) := ⟨by rw [signs_len]; exact h, by rw [tot_signs]; exact h⟩
theorem aPut_key {κ α : Type} [DecidableEq κ] {f : List (κ × α)} {k k' : κ} {v : α} (h : k' ∈ (aPut f k v).map (·.1)) : k' ∈ f.map (·.1) ∨ k' = k := by
  unfold aPut at h
  split at h
  · left
    rw [List.map_map] at h
    obtain ⟨p, hp, rfl⟩ := List.mem_map.mp h
    refine List.mem_map.mpr ⟨p, hp, ?_⟩
    show p.1 = (if p.1 = k then (p.1, v) else p).1
    split <;> rfl
  · rw [List.map_append] at h
    rcases List.mem_append.mp h with z | z
    · exact .inl z
    · exact .inr (by simpa using z)
theorem bumps_key {tk : Tk} {c : Int} {k : Pair} : ∀ {l : List Pair} {f : F}, k ∈ (l.foldl (bump tk c) f).map (·.1) → k ∈ f.map (·.1) ∨ k ∈ l
  | [], f, h => .inl h
  | p :: l, f, h => by
    rcases bumps_key (l := l) h with h | h
    · unfold bump at h
      split at h
      · exact .inl h
      · rcases aPut_key h with h | h
        · exact .inl h
        · exact .inr (by simp [h])
    · exact .inr (List.mem_cons_of_mem _ h)
theorem rows_key {tk : Tk} {k : Pair} : ∀ {l : Rcs} {f : F}, k ∈ (l.foldl (addRow tk) f).map (·.1) → k ∈ f.map (·.1) ∨ ∃ x ∈ l, k ∈ pairsOf x.1
  | [], f, h => .inl h
  | x :: l, f, h => by
    rcases rows_key (l := l) h with h | ⟨y, hy, h⟩
    · rcases bumps_key h with h | h
      · exact .inl h
      · exact .inr ⟨x, List.mem_cons_self .., h⟩
    · exact .inr ⟨y, List.mem_cons_of_mem _ hy, h⟩
theorem pick_mem {f : F} {p : Pair} : ∀ {ks : List Pair} {bm : Option Pair × Int}, (ks.foldl (pickStep f) bm).1 = some p → bm.1 = some p ∨ p ∈ ks
  | [], bm, h => .inl h
  | k :: ks, bm, h => by
    rcases pick_mem (ks := ks) h with h | h
    · unfold pickStep at h
      split at h
      · exact .inr (by cases h; simp)
      · exact .inl h
    · exact .inr (List.mem_cons_of_mem _ h)
theorem chosen_key {f : F} {p : Pair} (h : chosen f = some p) : p ∈ f.map (·.1) := by
  rcases pick_mem h with h | h
  · cases h
  · exact sortP_mem.mp h
theorem chosen_row {tk : Tk} {rcs : Rcs} {p : Pair} (h : chosen (countF tk rcs) = some p) : ∃ x ∈ rcs, p ∈ pairsOf x.1 := by
  rcases rows_key (chosen_key h) with h | h
  · cases h
  · exact h
theorem chosen_len {tk : Tk} {rcs : Rcs} {p : Pair} (h : chosen (countF tk rcs) = some p) (ok : ∀ x ∈ rcs, RowT x.1) : p.1.length + p.2.length < 1000 := by
  obtain ⟨x, hx, hp⟩ := chosen_row h
  exact (ok x hx).ok.2 p hp
theorem stepRows_ok {rcs : Rcs} {p : Pair} (ok : ∀ x ∈ rcs, RowT x.1) : ∀ x ∈ stepRows p rcs, RowT x.1 := fun x hx => by
  obtain ⟨y, hy, rfl⟩ := List.mem_map.mp hx
  exact (ok y hy).step p
theorem countF_len {tk : Tk} {rcs : Rcs} (hl : rcs.length < 1000) (ok : ∀ x ∈ rcs, RowT x.1) : (countF tk rcs).length < 1000000 := by
  have := rows_len tk rcs [] fun y hy => (ok y hy).1
  rw [List.length_nil] at this
  have e : (countF tk rcs).length ≤ 0 + rcs.length * 1000 := this
  omega
end K

set_option Elab.async false
set_option linter.all false
set_option maxRecDepth 100000
set_option maxHeartbeats 2000000
namespace K
open PySem L2 DL
open PyProof.Rows hiding St signs inR
local macro_rules | `(tactic| walk_at "dl") => `(tactic| dsimp only [dSeq, dAsg, dgName, dVar, dC, dOp, dUn, dCB, dCons, dNil, dTup, dLst, dLstM, dNewK, dNewN, dRet, dRetN, dDrop, dIfS, dNext, dNever, dB, dAnd, dOr, dNot, dAndV, dOrV, dNotV, dIf, dMeth, dSl, dPart, dNoPart, dFor, dIter, dRange1, dRange2, dZip, dEnum, dLc, dLcM, dDc, dSortSet, dCall, dgSeq, dgSub, dgCons, dgNil, dPar, dAug, dBreak, dCont, dYes, endsD, slot, List.set_cons_zero, List.set_cons_succ, itemsD, listR, listRM, tupleR, viewL, viewS, DL.intOf, dwipe, setAll, Shape.bind])
local macro_rules | `(tactic| walk_at "op") => `(tactic| ((first | refine eqR_int ?_ | refine eqR_str ?_ | refine eqR_bl ?_ | refine neR_int ?_ | refine neR_str ?_ | refine ltR_int ?_ | refine leR_int ?_ | refine gtR_int ?_ | refine geR_int ?_ | refine addR_int ?_ | refine addR_str ?_ ?_ | refine iaddR_int ?_ | refine subR_int ?_ | refine isNR_q ?_ | refine notNR_q ?_ | refine lenR_lst ?_ | refine lenR_tup ?_ | refine intCR_int ?_ | refine intCR_bl ?_ | refine absR_int ?_); (try dsimp only)))
def wordD (x : Str × Int) : D := .tup [.str x.1, .int x.2]
def rows0 (cs : List (Str × Int)) : Rcs := cs.map fun x => (signs x.1, x.2)
def toldD (x : Option Pair × F) : D := .tup [pairD x.1, .dn (encF x.2)]
def CorpOk (cs : List (Str × Int)) : Prop := cs.length < 1000 ∧ ∀ x ∈ cs, x.1.length < 1000
theorem rows0_ok {cs : List (Str × Int)} (h : CorpOk cs) : ∀ x ∈ rows0 cs, RowT x.1 := fun x hx => by
  obtain ⟨y, hy, rfl⟩ := List.mem_map.mp hx
  exact RowT.start (h.2 y hy)
def trained (cs : List (Str × Int)) (n : Nat) : List (Option Pair × F) := train n (rows0 cs) []
def sp_trained_steps : DSp := fun ds M Q => ∃ (cs : List (Str × Int)) (n : Nat), ds = [.tup (cs.map wordD), .int n] ∧ CorpOk cs ∧ n < 100000 ∧ Q (.lst ((trained cs n).map toldD)) M
theorem train_len : ∀ (n : Nat) (rcs : Rcs) (tk : Tk), (train n rcs tk).length ≤ n
  | 0, _, _ => Nat.le_refl _
  | n + 1, rcs, tk => by
    unfold train
    split
    · simp
    · rename_i p e
      have := train_len n (stepRows p rcs) (aPut tk (p.1 ++ p.2) true)
      rw [List.length_cons]
      omega
theorem encF_bel {n : Nat} (f : F) : belowN n (encF f) := belowN_iff.mpr fun d hd => by
  obtain ⟨x, _, rfl⟩ := List.mem_map.mp hd
  trivial
theorem pairD_bel {n : Nat} : ∀ o : Option Pair, (pairD o).bel n
  | none => trivial
  | some p => ⟨trivial, trivial, trivial⟩
theorem told_bel {n : Nat} (l : List (Option Pair × F)) : belows n (l.map toldD) := belows_iff.mpr fun d hd => by
  obtain ⟨x, _, rfl⟩ := List.mem_map.mp hd
  exact ⟨pairD_bel _, encF_bel _, trivial⟩
theorem dat_trained_steps (ds : List D) (M : Store) (Q : DK) (h : sp_trained_steps ds M Q) : t_trained_steps sp_pair_counts sp_chosen_pair sp_joined_once (endsD M Q) (startD 12 ds) M := by
  obtain ⟨cs, n, rfl, ok, hn, q⟩ := h
  show t_trained_steps _ _ _ (endsD M Q) [_, _, none, none, none, none, none, none, none, none, none, none] M
  unfold t_trained_steps
  walk_at "dl"
  refine lc_map (sh := .many [9, 10]) ?_ wordD (fun x => rowD (signs x.1)) cs (small' (by have := ok.1; omega)) (fun x hx => ⟨_, rfl, fun K k => ?_⟩) ?_
  · trivial
  · walk_at "dl"
    rw [if_pos (small' (by have := ok.2 x hx; omega))]
    exact k
  refine lc_map (sh := .many [9, 10]) ?_ wordD (fun x => .int x.2) cs (small' (by have := ok.1; omega)) (fun x hx => ⟨_, rfl, fun K k => k⟩) ?_
  · trivial
  refine ⟨Nat.zero_le _, ?_⟩
  refine ⟨by omega, by omega, ?_⟩
  have e1 : (cs.map fun x => rowD (signs x.1)) = (rows0 cs).map fun x => rowD x.1 := by
    unfold rows0
    rw [List.map_map]
    rfl
  have e2 : (cs.map fun x => D.int x.2) = (rows0 cs).map fun x => D.int x.2 := by
    unfold rows0
    rw [List.map_map]
    rfl
  rw [e1, e2]
  have hl0 : (rows0 cs).length < 1000 := by
    unfold rows0
    rw [List.length_map]
    exact ok.1
  have hlen : (rangeD 0 ((n : Int)).toNat).length = n := by
    unfold rangeD
    simp
  refine for_inv (fun i ρ M' => ∃ (rcs : Rcs) (tk : Tk) (acc : List (Option Pair × F)) (a b c d e f : Option D), ρ = [some (.tup (cs.map wordD)), some (.int n), some (.lst (rcs.map fun x => rowD x.1)), some (.lst (rcs.map fun x => .int x.2)), some (.ref M.length), some (.ref (M.length + 1)), a, b, c, d, e, f] ∧
      M' = M ++ [.dk (encT tk), .lst (acc.map toldD)] ∧ acc ++ train (n - i) rcs tk = trained cs n ∧ rcs.length < 1000 ∧ (∀ x ∈ rcs, RowT x.1) ∧ acc.length ≤ i ∧ tk.length ≤ i)
    ⟨rows0 cs, [], [], none, none, none, none, none, none, ?_, ?_, rfl, hl0, rows0_ok ok, Nat.le_refl _, Nat.le_refl _⟩ ?_ ?_
  · simp
  · simp [encT]
  · rintro i x ρ M' ex ⟨rcs, tk, acc, a, b, c, d, e, f, rfl, rfl, et, hl, rok, ha, htk⟩
    have hi : i < n := by
      have := (List.getElem?_eq_some_iff.mp ex).1
      omega
    refine ⟨trivial, fun go k => ?_⟩
    obtain ⟨j, ej⟩ : ∃ j, n - i = j + 1 := ⟨n - i - 1, by omega⟩
    rw [ej] at et
    have g0 : (M ++ [MO.dk (encT tk), .lst (acc.map toldD)])[M.length]? = some (.dk (encT tk)) := get_at0 _ _
    have g1 : (M ++ [MO.dk (encT tk), .lst (acc.map toldD)])[M.length + 1]? = some (.lst (acc.map toldD)) := get_at _ _ 1
    walk_at "dl"
    refine ⟨rcs, tk, M.length, rfl, g0, hl, fun x hx => (rok x hx).ok, ?_⟩
    have hF := countF_len (tk := tk) hl rok
    refine ⟨countF tk rcs, rfl, by omega, ?_⟩
    refine ⟨tyM_lst g1, (by show 2 ≤ sizeLine; decide), ?_⟩
    refine append_cell g1 (by rw [List.length_map]; exact small (by omega)) ?_
    rw [set_at]
    refine isNR_q ?_
    try dsimp only
    have ea : acc.map toldD ++ [D.tup [pairD (chosen (countF tk rcs)), .dn (encF (countF tk rcs))]] = (acc ++ [(chosen (countF tk rcs), countF tk rcs)]).map toldD := by
      rw [List.map_append]
      rfl
    rw [ea]
    unfold train at et
    cases ec : chosen (countF tk rcs) with
    | none =>
      rw [ec] at et
      refine (if_pos (show D.isN (pairD none) = true from rfl)).symm ▸ ?_
      refine .lst (k := M.length + 1) (Nat.le_succ _) (get_at _ _ 1) (told_bel _) ?_
      have : acc ++ [(none, countF tk rcs)] = trained cs n := et
      rw [this]
      exact q
    | some p =>
      rw [ec] at et
      refine (if_neg (show ¬ D.isN (pairD (some p)) = true from Bool.false_ne_true)).symm ▸ ?_
      have hp := chosen_len ec rok
      refine ixR_tup (n := 0) rfl (ixR_tup (n := 1) rfl ?_)
      refine addR_str (small' (by omega)) ?_
      try dsimp only
      refine setR_dk (k := Sum.inr (p.1 ++ p.2)) (kvs := encT tk) (get_at0 _ _) rfl ?_ ?_
      · unfold encT
        rw [List.length_map]
        exact small (by omega)
      rw [set_at0, encT_put]
      refine lc_map (sh := .one 11) ?_ (fun x : List Str × Int => rowD x.1) (fun x => rowD (joinedOnce p.1 p.2 x.1)) rcs (small' (by omega)) (fun x hx => ⟨_, rfl, fun K k => ?_⟩) ?_
      · rfl
      · walk_at "dl"
        refine ixR_tup (n := 0) rfl (ixR_tup (n := 1) rfl ?_)
        exact ⟨x.1, p.1, p.2, rfl, (rok x hx).1, hp, k⟩
      have e3 : (rcs.map fun x => rowD (joinedOnce p.1 p.2 x.1)) = (stepRows p rcs).map fun x => rowD x.1 := by
        unfold stepRows
        rw [List.map_map]
        rfl
      have e4 : (rcs.map fun x => D.int x.2) = (stepRows p rcs).map fun x => D.int x.2 := by
        unfold stepRows
        rw [List.map_map]
        rfl
      rw [e3, e4]
      refine .inl (k _ _ ⟨stepRows p rcs, aPut tk (p.1 ++ p.2) true, acc ++ [(some p, countF tk rcs)], _, _, _, _, _, _, rfl, rfl, ?_, ?_, stepRows_ok rok, ?_, ?_⟩)
      · have : n - (i + 1) = j := by omega
        rw [this, ← et, List.append_assoc]
        rfl
      · unfold stepRows
        rw [List.length_map]
        exact hl
      · rw [List.length_append, List.length_singleton]
        omega
      · have := aPut_len tk (p.1 ++ p.2) true
        omega
  · rintro ρ M' ⟨rcs, tk, acc, a, b, c, d, e, f, rfl, rfl, et, hl, rok, ha, htk⟩
    refine ⟨trivial, ?_⟩
    walk_at "dl"
    rw [hlen, Nat.sub_self] at et
    unfold train at et
    rw [List.append_nil] at et
    refine .lst (k := M.length + 1) (Nat.le_succ _) (get_at _ _ 1) (told_bel _) ?_
    rw [et]
    exact q
end K

set_option Elab.async false
set_option linter.all false
set_option maxRecDepth 100000
set_option maxHeartbeats 2000000
namespace K
open PySem L2 DL
open PyProof.Rows hiding St signs inR
local macro_rules | `(tactic| walk_at "dl") => `(tactic| dsimp only [dSeq, dAsg, dgName, dVar, dC, dOp, dUn, dCB, dCons, dNil, dTup, dLst, dLstM, dNewK, dNewN, dRet, dRetN, dDrop, dIfS, dNext, dNever, dB, dAnd, dOr, dNot, dAndV, dOrV, dNotV, dIf, dMeth, dSl, dPart, dNoPart, dFor, dIter, dRange1, dRange2, dZip, dEnum, dLc, dLcM, dDc, dSortSet, dCall, dgSeq, dgSub, dgCons, dgNil, dPar, dAug, dBreak, dCont, dYes, endsD, slot, List.set_cons_zero, List.set_cons_succ, itemsD, listR, listRM, tupleR, viewL, viewS, DL.intOf, dwipe, setAll, Shape.bind])
local macro_rules | `(tactic| walk_at "op") => `(tactic| ((first | refine eqR_int ?_ | refine eqR_str ?_ | refine eqR_bl ?_ | refine neR_int ?_ | refine neR_str ?_ | refine ltR_int ?_ | refine leR_int ?_ | refine gtR_int ?_ | refine geR_int ?_ | refine addR_int ?_ | refine addR_str ?_ ?_ | refine iaddR_int ?_ | refine subR_int ?_ | refine isNR_q ?_ | refine notNR_q ?_ | refine lenR_lst ?_ | refine lenR_tup ?_ | refine intCR_int ?_ | refine intCR_bl ?_ | refine absR_int ?_); (try dsimp only)))
def rulesOf (l : List (Option Pair × F)) : List Pair := l.filterMap (·.1)
theorem RetOk_fz {M G : Store} {d d' : D} {Q : DK} (hz : Fz (M ++ G) M.length d d') (h : Q d' M) : RetOk M d (M ++ G) Q := .inr ⟨d', M, G, rfl, Nat.le_refl _, fun i o e => .inl e, hz, h⟩
def sp_train_joins : DSp := fun ds M Q => ∃ (z name : Str) (cs : List (Str × Int)) (n : Nat), ds = [.str z, .str name, .tup (cs.map wordD), .int n] ∧ CorpOk cs ∧ n < 100000 ∧ Q (joinsD z name (rulesOf (trained cs n))) M
theorem trained_len (cs : List (Str × Int)) (n : Nat) : (trained cs n).length ≤ n := train_len _ _ _
theorem rulesOf_len (l : List (Option Pair × F)) : (rulesOf l).length ≤ l.length := List.length_filterMap_le _ _
theorem dat_train_joins (ds : List D) (M : Store) (Q : DK) (h : sp_train_joins ds M Q) : t_train_joins sp_trained_steps (endsD M Q) (startD 7 ds) M := by
  obtain ⟨z, name, cs, n, rfl, ok, hn, q⟩ := h
  show t_train_joins _ (endsD M Q) [_, _, _, _, none, none, none] M
  unfold t_train_joins
  walk_at "dl"
  refine ⟨cs, n, rfl, ok, hn, ?_⟩
  have hl := trained_len cs n
  refine lc_filter (sh := .many [5, 6]) (by rfl) toldD (fun x => x.1.map (ruleD name)) (trained cs n) (small' (by omega)) (fun x hx => ⟨_, rfl, fun K k => ?_⟩) (fun x hx d e ρ2 eb K k => ?_) ?_
  · walk_at "dl"
    refine notNR_q ?_
    try dsimp only
    obtain ⟨o, f⟩ := x
    cases o <;> exact k
  · obtain ⟨o, f⟩ := x
    cases o with
    | none => cases e
    | some p =>
      have e' := Option.some.inj e
      subst e'
      have eb' := Option.some.inj eb
      subst eb'
      walk_at "dl"
      exact ixR_tup (n := 0) rfl (ixR_tup (n := 1) rfl ⟨(by show 3 ≤ sizeLine; decide), k⟩)
  have e : (trained cs n).filterMap (fun x => x.1.map (ruleD name)) = (rulesOf (trained cs n)).map (ruleD name) := by
    unfold rulesOf
    rw [List.map_filterMap]
  rw [e]
  exact ⟨(by show 4 ≤ sizeLine; decide), .keep q⟩
/-! the log -/
def countsD (f : F) : D := .tup ((sortP (f.map (·.1))).map fun k => .tup [pD k, .int ((aGet f k).getD 0)])
def logD (x : Option Pair × F) : D := .tup [pairD x.1, countsD x.2]
def sp_train_log : DSp := fun ds M Q => ∃ (z : Str) (cs : List (Str × Int)) (n : Nat), ds = [.str z, .tup (cs.map wordD), .int n] ∧ CorpOk cs ∧ n < 100000 ∧ Q (.tup ((trained cs n).map logD)) M
theorem train_F {x : Option Pair × F} : ∀ {n : Nat} {rcs : Rcs} {tk : Tk}, rcs.length < 1000 → (∀ y ∈ rcs, RowT y.1) → x ∈ train n rcs tk → x.2.length < 1000000
  | 0, _, _, _, _, h => by cases h
  | n + 1, rcs, tk, hl, ok, h => by
    unfold train at h
    rcases List.mem_cons.mp h with e | h
    · rw [e]
      exact countF_len hl ok
    · split at h
      · cases h
      · exact train_F (by unfold stepRows; rw [List.length_map]; exact hl) (stepRows_ok ok) h
theorem trained_F {x : Option Pair × F} {cs : List (Str × Int)} {n : Nat} (ok : CorpOk cs) (h : x ∈ trained cs n) : x.2.length < 1000000 := train_F (by unfold rows0; rw [List.length_map]; exact ok.1) (rows0_ok ok) h
theorem countsD_bel {n : Nat} (f : F) : (countsD f).bel n := belows_iff.mpr fun d hd => by
  obtain ⟨x, _, rfl⟩ := List.mem_map.mp hd
  exact ⟨⟨trivial, trivial, trivial⟩, trivial, trivial⟩
theorem dat_train_log (ds : List D) (M : Store) (Q : DK) (h : sp_train_log ds M Q) : t_train_log sp_trained_steps (endsD M Q) (startD 7 ds) M := by
  obtain ⟨z, cs, n, rfl, ok, hn, q⟩ := h
  show t_train_log _ (endsD M Q) [_, _, _, none, none, none, none] M
  unfold t_train_log
  walk_at "dl"
  refine ⟨Nat.zero_le _, cs, n, rfl, ok, hn, ?_⟩
  have hl := trained_len cs n
  try dsimp only
  refine for_inv (fun i ρ M' => ∃ a b c, ρ = [some (.str z), some (.tup (cs.map wordD)), some (.int n), some (.ref M.length), a, b, c] ∧ M' = M ++ [.lst (((trained cs n).take i).map logD)]) ⟨none, none, none, rfl, rfl⟩ ?_ ?_
  · rintro i x ρ M' ex ⟨a, b, c, rfl, rfl⟩
    rw [List.getElem?_map] at ex
    obtain ⟨⟨o, f⟩, ek, rfl⟩ := Option.map_eq_some_iff.mp ex
    refine ⟨by rfl, fun go k => ?_⟩
    have et : (trained cs n).take (i + 1) = (trained cs n).take i ++ [(o, f)] := by rw [List.take_add_one, ek]; rfl
    have hf := trained_F ok (List.mem_of_getElem? ek)
    unfold toldD
    walk_at "dl"
    refine ⟨rfl, rfl, tyM_lst (get_at0 _ _), ?_⟩
    refine sorted_F (small' (by have := hf; dsimp only at this; omega)) ?_
    try dsimp only
    refine lc_map (sh := .one 6) ?_ pD (fun k => .tup [pD k, .int ((aGet f k).getD 0)]) (sortP (f.map (·.1))) (small' (by rw [sortP_len, List.length_map]; have := hf; dsimp only at this; omega)) (fun x hx => ⟨_, rfl, fun K k => ?_⟩) ?_
    · rfl
    · obtain ⟨v, ev⟩ := aGet_key (sortP_mem.mp hx)
      walk_at "dl"
      refine found_at ev ⟨(by show 2 ≤ sizeLine; decide), ?_⟩
      rw [ev] at k
      exact k
    refine ⟨(by show 2 ≤ sizeLine; decide), ?_⟩
    refine append_cell (get_at0 _ _) (by rw [List.length_map, List.length_take]; exact small (by omega)) ?_
    rw [set_at0]
    refine .inl (k _ _ ⟨_, _, _, rfl, ?_⟩)
    rw [et, List.map_append]
    rfl
  · rintro ρ M' ⟨a, b, c, rfl, rfl⟩
    refine ⟨by rfl, ?_⟩
    dsimp only [dRet, dCB, dCons, dNil, dVar, slot, tupleR]
    rw [viewS_cell (get_at0 _ _)]
    rw [List.length_map, List.take_length]
    refine .drop ?_ q
    refine belows_iff.mpr fun d hd => ?_
    obtain ⟨x, _, rfl⟩ := List.mem_map.mp hd
    exact ⟨pairD_bel _, countsD_bel _, trivial⟩
end K

set_option Elab.async false
set_option linter.all false
set_option maxRecDepth 100000
set_option maxHeartbeats 2000000
namespace K
open PySem L2 DL
open PyProof.Rows hiding St signs inR
local macro_rules | `(tactic| walk_at "dl") => `(tactic| dsimp only [dSeq, dAsg, dgName, dVar, dC, dOp, dUn, dCB, dCons, dNil, dTup, dLst, dLstM, dNewK, dNewN, dRet, dRetN, dDrop, dIfS, dNext, dNever, dB, dAnd, dOr, dNot, dAndV, dOrV, dNotV, dIf, dMeth, dSl, dPart, dNoPart, dFor, dIter, dRange1, dRange2, dZip, dEnum, dLc, dLcM, dDc, dSortSet, dCall, dgSeq, dgSub, dgCons, dgNil, dPar, dAug, dBreak, dCont, dYes, endsD, slot, List.set_cons_zero, List.set_cons_succ, itemsD, listR, listRM, tupleR, viewL, viewS, DL.intOf, dwipe, setAll, Shape.bind])
local macro_rules | `(tactic| walk_at "op") => `(tactic| ((first | refine eqR_int ?_ | refine eqR_str ?_ | refine eqR_bl ?_ | refine neR_int ?_ | refine neR_str ?_ | refine ltR_int ?_ | refine leR_int ?_ | refine gtR_int ?_ | refine geR_int ?_ | refine addR_int ?_ | refine addR_str ?_ ?_ | refine iaddR_int ?_ | refine subR_int ?_ | refine isNR_q ?_ | refine notNR_q ?_ | refine lenR_lst ?_ | refine lenR_tup ?_ | refine intCR_int ?_ | refine intCR_bl ?_ | refine absR_int ?_); (try dsimp only)))
theorem range_item {n i : Nat} {x : D} (h : (rangeD 0 n)[i]? = some x) : x = .int ((i : Nat) : Int) ∧ i < n := by
  unfold rangeD at h
  rw [List.getElem?_map] at h
  obtain ⟨j, ej, rfl⟩ := Option.map_eq_some_iff.mp h
  obtain ⟨h1, h2⟩ := List.getElem?_eq_some_iff.mp ej
  rw [List.length_range] at h1
  rw [List.getElem_range] at h2
  subst h2
  exact ⟨by rw [Int.zero_add], h1⟩
theorem range_len (n : Nat) : (rangeD 0 n).length = n := by
  unfold rangeD
  simp
theorem pairs_at {ps : List Str} {i : Nat} {a b : Str} (h1 : ps[i]? = some a) (h2 : ps[i + 1]? = some b) : (pairsOf ps)[i]? = some (a, b) := by
  unfold pairsOf
  rw [List.getElem?_zip_eq_some]
  exact ⟨h1, by rw [List.getElem?_tail]; exact h2⟩
theorem pairs_len (ps : List Str) : (pairsOf ps).length = ps.length - 1 := by
  unfold pairsOf
  rw [List.length_zip, List.length_tail]
  omega
def lineD (x : List Str × Int) : D := .tup [rowD x.1, .int x.2]
def sp_u_law_counts : DSp := fun ds M Q => ∃ (rcs : List (List Str × Int)) (tk : Tk) (n : Nat), ds = [.lst (rcs.map lineD), .ref n] ∧ M[n]? = some (.dk (encT tk)) ∧ rcs.length < 1000 ∧ (∀ x ∈ rcs, RowOk x.1) ∧ Q (.dn (encF (countF tk rcs))) M
theorem dat_u_law_counts (ds : List D) (M : Store) (Q : DK) (h : sp_u_law_counts ds M Q) : t_u_law_counts (endsD M Q) (startD 7 ds) M := by
  obtain ⟨rcs, tk, n, rfl, eM, hl, hok, q⟩ := h
  show t_u_law_counts (endsD M Q) [_, _, none, none, none, none, none] M
  unfold t_u_law_counts
  walk_at "dl"
  have hn : n < M.length := (List.getElem?_eq_some_iff.mp eM).1
  have gM : ∀ G : Store, (M ++ G)[n]? = some (.dk (encT tk)) := fun G => by rw [List.getElem?_append_left hn]; exact eM
  refine for_inv (fun i ρ M' => ∃ a b c d, ρ = [some (.lst (rcs.map lineD)), some (.ref n), some (.ref M.length), a, b, c, d] ∧ M' = M ++ [.dn (encF ((rcs.take i).foldl (addRow tk) []))]) ⟨none, none, none, none, rfl, rfl⟩ ?_ ?_
  · rintro i x ρ M' ex ⟨a, b, c, d, rfl, rfl⟩
    rw [List.getElem?_map] at ex
    obtain ⟨rc, ep, rfl⟩ := Option.map_eq_some_iff.mp ex
    have hi : i < rcs.length := (List.getElem?_eq_some_iff.mp ep).1
    have rok := hok rc (List.mem_of_getElem? ep)
    refine ⟨by rfl, fun go k => ?_⟩
    have L0 := rows_len tk (rcs.take i) [] fun y hy => (hok y (List.mem_of_mem_take hy)).1
    rw [List.length_take, List.length_nil] at L0
    rw [show lineD rc = .tup [rowD rc.1, .int rc.2] from rfl]
    walk_at "dl"
    refine ⟨rfl, rfl, ?_⟩
    rw [show rowD rc.1 = .lst (rc.1.map D.str) from rfl]
    refine lenR_lst (subR_int ?_)
    try dsimp only
    rw [List.length_map]
    have L3 := rok.1
    refine ⟨by omega, by omega, ?_⟩
    have hN : (((rc.1.length : Nat) : Int) - 1).toNat = (pairsOf rc.1).length := by
      rw [pairs_len]
      omega
    rw [hN]
    refine for_inv (fun j ρ M' => ∃ c d, ρ = [some (.lst (rcs.map lineD)), some (.ref n), some (.ref M.length), some (rowD rc.1), some (.int rc.2), c, d] ∧
      M' = M ++ [.dn (encF (((pairsOf rc.1).take j).foldl (bump tk rc.2) ((rcs.take i).foldl (addRow tk) [])))]) ⟨c, d, rfl, rfl⟩ ?_ ?_
    · rintro j x ρ M' ex ⟨c, d, rfl, rfl⟩
      obtain ⟨rfl, hj⟩ := range_item ex
      have hj2 : j + 1 < rc.1.length := by
        rw [pairs_len] at hj
        omega
      have ex0 : rc.1[j]? = some rc.1[j] := List.getElem?_eq_getElem (by omega)
      have ex1 : rc.1[j + 1]? = some rc.1[j + 1] := List.getElem?_eq_getElem hj2
      generalize hp1 : rc.1[j] = l at ex0
      generalize hp2 : rc.1[j + 1] = r at ex1
      have epp := pairs_at ex0 ex1
      have hp := rok.2 _ (List.mem_of_getElem? epp)
      dsimp only at hp
      refine ⟨by trivial, fun go k => ?_⟩
      have et : (pairsOf rc.1).take (j + 1) = (pairsOf rc.1).take j ++ [(l, r)] := by rw [List.take_add_one, epp]; rfl
      have L1 := bumps_len tk rc.2 ((pairsOf rc.1).take j) ((rcs.take i).foldl (addRow tk) [])
      rw [List.length_take] at L1
      have L2 := pairsOf_len rc.1
      walk_at "dl"
      have two : ∀ (M : Store) (K : DK), K (.str l) M → ixR (rowD rc.1) (.int ((j : Nat) : Int)) M K := fun M K h => ixR_lst ex0 h
      have two' : ∀ (M : Store) (K : DK), K (.str r) M → ixR (rowD rc.1) (.int (((j : Nat) : Int) + 1)) M K := fun M K h => ixR_lst (n := j + 1) ex1 h
      refine two _ _ (addR_int (two' _ _ ?_))
      refine addR_str (small' (by omega)) ?_
      try dsimp only
      refine notInR_at (dGet_dk (k := Sum.inr (l ++ r)) (gM _) rfl) ?_
      dsimp only
      rw [encT_get, Option.isSome_map]
      refine ite_nbool (fun h => ?_) (fun h => ?_)
      · refine two _ _ (addR_int (two' _ _ ?_))
        refine ⟨(by show 2 ≤ sizeLine; decide), ?_⟩
        refine ⟨tyM_dn (get_at0 _ _), ?_⟩
        refine getOr_at (dGet_dn (k := kP (l, r)) (get_at0 _ _) (tkey_P _ _) (depth_P _)) ?_
        rw [encF_get]
        have eg : ∀ (o : Option Int), (o.map D.int).getD (.int 0) = .int (o.getD 0) := fun o => by cases o <;> rfl
        rw [eg]
        refine addR_int ?_
        try dsimp only
        refine setR_dn (k := kP (l, r)) (get_at0 _ _) (tkey_P _ _) (depth_P _) (by unfold encF; rw [List.length_map]; exact small (by omega)) ?_
        rw [set_at0, encF_put]
        refine .inl (k _ _ ⟨_, _, rfl, ?_⟩)
        rw [et, List.foldl_append]
        show M ++ [MO.dn _] = M ++ [MO.dn (encF (bump tk rc.2 _ (l, r)))]
        unfold bump
        rw [if_neg (by rw [h]; exact Bool.false_ne_true)]
      · refine .inl (k _ _ ⟨_, _, rfl, ?_⟩)
        rw [et, List.foldl_append]
        show _ = M ++ [MO.dn (encF (bump tk rc.2 _ (l, r)))]
        unfold bump
        rw [if_pos h]
    · rintro ρ M' ⟨c, d, rfl, rfl⟩
      refine ⟨by trivial, .inl (k _ _ ⟨_, _, _, _, rfl, ?_⟩)⟩
      have et : rcs.take (i + 1) = rcs.take i ++ [rc] := by rw [List.take_add_one, ep]; rfl
      rw [range_len, List.take_length, et, List.foldl_append]
      rfl
  · rintro ρ M' ⟨a, b, c, d, rfl, rfl⟩
    refine ⟨by rfl, ?_⟩
    walk_at "dl"
    rw [List.length_map, List.take_length]
    exact .dn (Nat.le_refl _) (get_at0 _ _) (encF_bel _) q
/-! texts without surrogate trouble: shaped -/
def OkS (ps : List Str) : Prop := ∀ p ∈ ps, PyData.strOk p = true
theorem strOk_app {a b : Str} (h1 : PyData.strOk a = true) (h2 : PyData.strOk b = true) : PyData.strOk (a ++ b) = true := by
  unfold PyData.strOk at *
  show (a.cps ++ b.cps).all _ = true
  rw [Array.all_append, h1, h2]
  rfl
theorem shaped_P {p : Pair} (h1 : PyData.strOk p.1 = true) (h2 : PyData.strOk p.2 = true) : SeqAt.shaped (encP p) = true := by
  unfold SeqAt.shaped encP
  rw [Bool.and_eq_true]
  refine ⟨?_, of_decide_eq_true (by rfl) |> decide_eq_true⟩
  simp [PyData.canLay0, PyData.canLayAll0, h1, h2]
theorem eqv_P (p q : Pair) : PyData.eqv (encP p) (encP q) = decide (p = q) := by
  obtain ⟨a, b⟩ := p
  obtain ⟨c, d⟩ := q
  show (a == c && (b == d && true)) = _
  rw [Bool.and_true]
  by_cases h1 : a = c
  · by_cases h2 : b = d
    · simp [h1, h2]
    · simp [h1, h2]
  · simp [h1]
theorem eqR_P {p q : Pair} {M : Store} {Q : DK} (h : PyData.strOk p.1 = true ∧ PyData.strOk p.2 = true ∧ PyData.strOk q.1 = true ∧ PyData.strOk q.2 = true) (k : Q (.bl (decide (p = q))) M) : eqR (pD p) (pD q) M Q :=
  ⟨encP p, encP q, .tup (.cons (.str _) (.cons (.str _) .nil)), .tup (.cons (.str _) (.cons (.str _) .nil)), shaped_P h.1 h.2.1, shaped_P h.2.2.1 h.2.2.2, by rw [eqv_P]; exact k⟩
theorem joinedOnce_ok {l r : Str} (hl : PyData.strOk l = true) (hr : PyData.strOk r = true) {ps : List Str} (h : OkS ps) : OkS (joinedOnce l r ps) := fun x hx => by
  rcases joinedOnce_mem hx with h' | ⟨h', _⟩
  · exact h x h'
  · rw [h']; exact strOk_app hl hr
end K

set_option Elab.async false
set_option linter.all false
set_option maxRecDepth 100000
set_option maxHeartbeats 2000000
namespace K
open PySem L2 DL
open PyProof.Rows hiding St signs inR
local macro_rules | `(tactic| walk_at "dl") => `(tactic| dsimp only [dSeq, dAsg, dgName, dVar, dC, dOp, dUn, dCB, dCons, dNil, dTup, dLst, dLstM, dNewK, dNewN, dRet, dRetN, dDrop, dIfS, dNext, dNever, dB, dAnd, dOr, dNot, dAndV, dOrV, dNotV, dIf, dMeth, dSl, dPart, dNoPart, dFor, dIter, dRange1, dRange2, dZip, dEnum, dLc, dLcM, dDc, dSortSet, dCall, dgSeq, dgSub, dgCons, dgNil, dPar, dAug, dBreak, dCont, dYes, endsD, slot, List.set_cons_zero, List.set_cons_succ, itemsD, listR, listRM, tupleR, viewL, viewS, DL.intOf, dwipe, setAll, Shape.bind])
local macro_rules | `(tactic| walk_at "op") => `(tactic| ((first | refine eqR_int ?_ | refine eqR_str ?_ | refine eqR_bl ?_ | refine neR_int ?_ | refine neR_str ?_ | refine ltR_int ?_ | refine leR_int ?_ | refine gtR_int ?_ | refine geR_int ?_ | refine addR_int ?_ | refine addR_str ?_ ?_ | refine iaddR_int ?_ | refine subR_int ?_ | refine isNR_q ?_ | refine notNR_q ?_ | refine lenR_lst ?_ | refine lenR_tup ?_ | refine intCR_int ?_ | refine intCR_bl ?_ | refine absR_int ?_); (try dsimp only)))
def sp_u_law_joined : DSp := fun ds M Q => ∃ (ps : List Str) (p : Pair), ds = [rowD ps, pD p] ∧ RowOk ps ∧ OkS ps ∧ PyData.strOk p.1 = true ∧ PyData.strOk p.2 = true ∧ Q (rowD (joinedOnce p.1 p.2 ps)) M
theorem str_bel {n : Nat} (l : List Str) : belows n (l.map D.str) := belows_iff.mpr fun d hd => by
  obtain ⟨x, _, rfl⟩ := List.mem_map.mp hd
  trivial
theorem dat_u_law_joined (ds : List D) (M : Store) (Q : DK) (h : sp_u_law_joined ds M Q) : t_u_law_joined (endsD M Q) (startD 4 ds) M := by
  obtain ⟨ps, ⟨l, r⟩, rfl, rok, oks, ol, or, q⟩ := h
  show t_u_law_joined (endsD M Q) [some (rowD ps), some (pD (l, r)), none, none] M
  unfold t_u_law_joined
  walk_at "dl"
  refine ⟨Nat.zero_le _, fun m ρ M' => ∃ (i : Nat) (acc : List Str), ρ = [some (rowD ps), some (pD (l, r)), some (.ref M.length), some (.int i)] ∧ M' = M ++ [.lst (acc.map D.str)] ∧
    acc ++ joinedOnce l r (ps.drop i) = joinedOnce l r ps ∧ i ≤ ps.length ∧ m = ps.length - i ∧ acc.length ≤ i, ⟨_, 0, [], rfl, rfl, rfl, Nat.zero_le _, rfl, Nat.le_refl _⟩, ?_⟩
  rintro m ρ M' ⟨i, acc, rfl, rfl, e, hi, rfl, ha⟩
  have hl := rok.1
  have eM : (M ++ [MO.lst (acc.map D.str)])[M.length]? = some (.lst (acc.map D.str)) := get_at0 _ _
  have app : ∀ (y : Str) (Q' : DK), Q' .non (M ++ [.lst ((acc ++ [y]).map D.str)]) → appendR (.ref M.length) [.str y] (M ++ [MO.lst (acc.map D.str)]) Q' := fun y Q' h => by
    refine append_cell eM (by rw [List.length_map]; exact small (by omega)) ?_
    rw [set_at0]
    simpa using h
  have len : ∀ (M : Store) (K : DK), K (.int ps.length) M → lenR [rowD ps] M K := fun M K h => lenR_lst (by rw [List.length_map]; exact h)
  walk_at "dl"
  refine len _ _ (ltR_int ?_)
  try dsimp only
  refine ite_dec (fun h1 => ?_) (fun h1 => ?_)
  · have hlt : i < ps.length := by omega
    have ex : ps[i]? = some ps[i] := List.getElem?_eq_getElem hlt
    have ix0 : ∀ (M : Store) (K : DK), K (.str ps[i]) M → ixR (rowD ps) (.int ((i : Nat) : Int)) M K := fun M K h => ixR_lst ex h
    have one : ps[i] ≠ l ∨ ps[i + 1]? ≠ some r → ixR (rowD ps) (.int i) (M ++ [MO.lst (acc.map D.str)]) fun x M1 => appendR (.ref M.length) [x] M1 fun x M1 => addR (.int i) (.int 1) M1 fun y M1 =>
        DL.TurnOk (M ++ [MO.lst (acc.map D.str)]) [some (rowD ps), some (pD (l, r)), some (.ref M.length), some y] M1 fun ρ'' M'' => ∃ m', m' < ps.length - i ∧ ∃ (i : Nat) (acc : List Str),
          ρ'' = [some (rowD ps), some (pD (l, r)), some (.ref M.length), some (.int i)] ∧ M'' = M ++ [.lst (acc.map D.str)] ∧ acc ++ joinedOnce l r (ps.drop i) = joinedOnce l r ps ∧ i ≤ ps.length ∧ m' = ps.length - i ∧ acc.length ≤ i := fun hne => by
      refine ix0 _ _ (app _ _ (addR_int (.inl ⟨ps.length - (i + 1), by omega, i + 1, acc ++ [ps[i]], rfl, rfl, ?_, by omega, rfl, by rw [List.length_append, List.length_singleton]; omega⟩)))
      rw [← e, List.append_assoc, List.drop_eq_getElem_cons hlt]
      congr 1
      cases e2 : ps.drop (i + 1) with
      | nil => simp [joinedOnce]
      | cons b t =>
        have eb : ps[i + 1]? = some b := by
          have := List.getElem?_drop (xs := ps) (i := i + 1) (j := 0)
          rw [e2] at this
          simpa using this.symm
        have : ¬ (ps[i] = l ∧ b = r) := fun ⟨z1, z2⟩ => hne.elim (fun h => h z1) fun h => h (by rw [eb, z2])
        simp [joinedOnce, this]
    refine addR_int (len _ _ (ltR_int ?_))
    try dsimp only
    refine ite_dec (fun h3 => ?_) (fun h3 => ?_)
    · have hlt1 : i + 1 < ps.length := by omega
      have ex1 : ps[i + 1]? = some ps[i + 1] := List.getElem?_eq_getElem hlt1
      have ix1 : ∀ (M : Store) (K : DK), K (.str ps[i + 1]) M → ixR (rowD ps) (.int (((i : Nat) : Int) + 1)) M K := fun M K h => ixR_lst (n := i + 1) ex1 h
      refine ix0 _ _ (addR_int (ix1 _ _ ⟨(by show 2 ≤ sizeLine; decide), ?_⟩))
      refine eqR_P (p := (ps[i], ps[i + 1])) (q := (l, r)) ⟨oks _ (List.getElem_mem _), oks _ (List.getElem_mem _), ol, or⟩ ?_
      try dsimp only
      have hsum := rok.2 _ (List.mem_of_getElem? (pairs_at ex ex1))
      dsimp only at hsum
      refine ite_dec (fun h4 => ?_) (fun h4 => ?_)
      · refine ⟨tyM_lst eM, ?_⟩
        refine ix0 _ _ (addR_int (ix1 _ _ ?_))
        refine addR_str (small' (by omega)) ?_
        try dsimp only
        refine app _ _ (addR_int ?_)
        refine .inl ⟨ps.length - (i + 2), by omega, i + 2, acc ++ [ps[i] ++ ps[i + 1]], rfl, rfl, ?_, by omega, rfl, by rw [List.length_append, List.length_singleton]; omega⟩
        have z1 : ps[i] = l := congrArg Prod.fst h4
        have z2 : ps[i + 1] = r := congrArg Prod.snd h4
        rw [← e, List.append_assoc, drop_two ex ex1, z1, z2]
        simp [joinedOnce]
      · refine ⟨tyM_lst eM, one ?_⟩
        by_cases z1 : ps[i] = l
        · refine .inr fun z2 => h4 ?_
          rw [ex1] at z2
          exact Prod.ext z1 (Option.some.inj z2)
        · exact .inl z1
    · exact ⟨tyM_lst eM, one (.inr (by rw [List.getElem?_eq_none (by omega)]; simp))⟩
  · have ei : i = ps.length := by omega
    subst ei
    rw [List.drop_length] at e
    simp only [joinedOnce, List.append_nil] at e
    subst e
    exact .lst (Nat.le_refl _) eM (str_bel _) q
/-! the law's own training -/
def finalRows (rs : List Pair) (rcs : Rcs) : Rcs := rs.foldl (fun rcs p => stepRows p rcs) rcs
def rowsOk (rcs : Rcs) : Prop := rcs.length < 1000 ∧ (∀ x ∈ rcs, RowT x.1) ∧ ∀ x ∈ rcs, OkS x.1
theorem rowsOk.step {rcs : Rcs} {p : Pair} (h : rowsOk rcs) (h1 : PyData.strOk p.1 = true) (h2 : PyData.strOk p.2 = true) : rowsOk (stepRows p rcs) := ⟨by unfold stepRows; rw [List.length_map]; exact h.1, stepRows_ok h.2.1, fun x hx => by
  obtain ⟨y, hy, rfl⟩ := List.mem_map.mp hx
  exact joinedOnce_ok h1 h2 (h.2.2 y hy)⟩
theorem pairs_ok {ps : List Str} (h : OkS ps) {p : Pair} (hp : p ∈ pairsOf ps) : PyData.strOk p.1 = true ∧ PyData.strOk p.2 = true := by
  obtain ⟨a, b⟩ := p
  have := List.of_mem_zip hp
  exact ⟨h _ this.1, h _ (List.mem_of_mem_tail this.2)⟩
def CorpS (cs : List (Str × Int)) : Prop := CorpOk cs ∧ ∀ x ∈ cs, PyData.strOk x.1 = true
theorem signs_ok {z : Str} (h : PyData.strOk z = true) : OkS (signs z) := fun p hp => by
  unfold signs at hp
  obtain ⟨c, hc, rfl⟩ := List.mem_map.mp hp
  unfold PyData.strOk at h ⊢
  rw [Array.all_eq_true_iff_forall_mem] at h
  have := h c (by simpa using hc)
  simpa using this
theorem rows0_all {cs : List (Str × Int)} (h : CorpS cs) : rowsOk (rows0 cs) := ⟨by unfold rows0; rw [List.length_map]; exact h.1.1, rows0_ok h.1, fun x hx => by
  obtain ⟨y, hy, rfl⟩ := List.mem_map.mp hx
  exact signs_ok (h.2 y hy)⟩
def sp_u_law_trained : DSp := fun ds M Q => ∃ (cs : List (Str × Int)) (n : Nat), ds = [.tup (cs.map wordD), .int n] ∧ CorpS cs ∧ n < 100000 ∧
  Q (.lst [.lst ((rulesOf (trained cs n)).map pD), .lst ((finalRows (rulesOf (trained cs n)) (rows0 cs)).map fun x => rowD x.1)]) M
theorem pD_bel {n : Nat} (l : List Pair) : belows n (l.map pD) := belows_iff.mpr fun d hd => by
  obtain ⟨x, _, rfl⟩ := List.mem_map.mp hd
  exact ⟨trivial, trivial, trivial⟩
theorem rows_bel {n : Nat} (rcs : Rcs) : belows n (rcs.map fun x => rowD x.1) := belows_iff.mpr fun d hd => by
  obtain ⟨x, _, rfl⟩ := List.mem_map.mp hd
  exact str_bel _
end K

set_option Elab.async false
set_option linter.all false
set_option maxRecDepth 100000
set_option maxHeartbeats 2000000
namespace K
open PySem L2 DL
open PyProof.Rows hiding St signs inR
local macro_rules | `(tactic| walk_at "dl") => `(tactic| dsimp only [dSeq, dAsg, dgName, dVar, dC, dOp, dUn, dCB, dCons, dNil, dTup, dLst, dLstM, dNewK, dNewN, dRet, dRetN, dDrop, dIfS, dNext, dNever, dB, dAnd, dOr, dNot, dAndV, dOrV, dNotV, dIf, dMeth, dSl, dPart, dNoPart, dFor, dIter, dRange1, dRange2, dZip, dEnum, dLc, dLcM, dDc, dSortSet, dCall, dgSeq, dgSub, dgCons, dgNil, dPar, dAug, dBreak, dCont, dYes, endsD, slot, List.set_cons_zero, List.set_cons_succ, itemsD, listR, listRM, tupleR, viewL, viewS, DL.intOf, dwipe, setAll, Shape.bind])
local macro_rules | `(tactic| walk_at "op") => `(tactic| ((first | refine eqR_int ?_ | refine eqR_str ?_ | refine eqR_bl ?_ | refine neR_int ?_ | refine neR_str ?_ | refine ltR_int ?_ | refine leR_int ?_ | refine gtR_int ?_ | refine geR_int ?_ | refine addR_int ?_ | refine addR_str ?_ ?_ | refine iaddR_int ?_ | refine subR_int ?_ | refine isNR_q ?_ | refine notNR_q ?_ | refine lenR_lst ?_ | refine lenR_tup ?_ | refine intCR_int ?_ | refine intCR_bl ?_ | refine absR_int ?_); (try dsimp only)))
theorem dat_u_law_trained (ds : List D) (M : Store) (Q : DK) (h : sp_u_law_trained ds M Q) : t_u_law_trained sp_u_law_counts sp_u_law_joined (endsD M Q) (startD 14 ds) M := by
  obtain ⟨cs, n, rfl, ok, hn, q⟩ := h
  show t_u_law_trained _ _ (endsD M Q) [_, _, none, none, none, none, none, none, none, none, none, none, none, none] M
  unfold t_u_law_trained
  walk_at "dl"
  refine lc_map (sh := .many [10, 11]) ?_ wordD (fun x => lineD (signs x.1, x.2)) cs (small' (by have := ok.1.1; omega)) (fun x hx => ⟨_, rfl, fun K k => ?_⟩) ?_
  · trivial
  · walk_at "dl"
    refine lc_map (sh := .one 12) ?_ D.str D.str (signs x.1) (small' (by rw [signs_len]; have := ok.1.2 x hx; omega)) (fun c hc => ⟨_, rfl, fun K k => k⟩) ?_
    · trivial
    exact ⟨(by show 2 ≤ sizeLine; decide), k⟩
  have e1 : (cs.map fun x => lineD (signs x.1, x.2)) = (rows0 cs).map lineD := by
    unfold rows0
    rw [List.map_map]
    rfl
  rw [e1]
  refine ⟨Nat.zero_le _, by omega, by omega, ?_⟩
  try dsimp only
  rw [Int.toNat_natCast]
  have fin : ∀ (rcs : Rcs) (tk : Tk) (acc : List Pair) (a b c d e f g h i : Option D), rcs.length < 1000 → acc = rulesOf (trained cs n) → rcs = finalRows (rulesOf (trained cs n)) (rows0 cs) →
      dRet (dLst (dCons (dVar 3) (dCons (dLc (dIter (dVar 2)) (.many [13, 11]) dYes (dVar 13) [13, 11]) dNil))) { nx := fun x M' => RetOk M .non M' Q, rt := fun d M' => RetOk M d M' Q }
        [some (.tup (cs.map wordD)), some (.int n), some (.lst (rcs.map lineD)), some (.ref M.length), some (.ref (M.length + 1)), a, b, c, d, e, f, g, h, i] (M ++ [.lst (acc.map pD), .dk (encT tk)]) := by
    intro rcs tk acc a b c d e f g h i hl ea er
    walk_at "dl"
    refine lc_map (sh := .many [13, 11]) ?_ lineD (fun x => rowD x.1) rcs (small' (by omega)) (fun x hx => ⟨_, rfl, fun K k => k⟩) ?_
    · rfl
    refine ⟨(by show 2 ≤ sizeLine; decide), ?_⟩
    subst ea
    rw [er]
    refine RetOk_fz (.lst (ds' := [.lst ((rulesOf (trained cs n)).map pD), .lst ((finalRows (rulesOf (trained cs n)) (rows0 cs)).map fun x => rowD x.1)]) rfl fun i d d' h1 h2 => ?_) q
    match i, h1, h2 with
    | 0, h1, h2 =>
      cases h1
      cases h2
      exact .cl (ds := (rulesOf (trained cs n)).map pD) (Nat.le_refl _) (by exact get_at0 _ _) rfl (fz_items (pD_bel _))
    | 1, h1, h2 =>
      cases h1
      cases h2
      exact .keep (rows_bel _)
  have ok0 := rows0_all ok
  refine for_inv (fun i ρ M' => ∃ (rcs : Rcs) (tk : Tk) (acc : List Pair) (a b c d e f g h j : Option D), ρ = [some (.tup (cs.map wordD)), some (.int n), some (.lst (rcs.map lineD)), some (.ref M.length), some (.ref (M.length + 1)), a, b, c, d, e, f, g, h, j] ∧
      M' = M ++ [.lst (acc.map pD), .dk (encT tk)] ∧ acc ++ rulesOf (train (n - i) rcs tk) = rulesOf (trained cs n) ∧ finalRows (rulesOf (train (n - i) rcs tk)) rcs = finalRows (rulesOf (trained cs n)) (rows0 cs) ∧ rowsOk rcs ∧ acc.length ≤ i ∧ tk.length ≤ i)
    ⟨rows0 cs, [], [], none, none, none, none, none, none, none, none, none, ?_, ?_, rfl, rfl, ok0, Nat.le_refl _, Nat.le_refl _⟩ ?_ ?_
  · simp
  · simp [encT]
  · rintro i x ρ M' ex ⟨rcs, tk, acc, a, b, c, d, e, f, g, h, j, rfl, rfl, et, er, rok, ha, htk⟩
    obtain ⟨rfl, hi⟩ := range_item ex
    refine ⟨trivial, fun go k => ?_⟩
    obtain ⟨j, ej⟩ : ∃ j, n - i = j + 1 := ⟨n - i - 1, by omega⟩
    rw [ej] at et er
    have g0 : (M ++ [MO.lst (acc.map pD), .dk (encT tk)])[M.length]? = some (.lst (acc.map pD)) := get_at0 _ _
    have g1 : (M ++ [MO.lst (acc.map pD), .dk (encT tk)])[M.length + 1]? = some (.dk (encT tk)) := get_at _ _ 1
    walk_at "dl"
    refine ⟨rcs, tk, M.length + 1, rfl, g1, rok.1, fun x hx => (rok.2.1 x hx).ok, ?_⟩
    have hF := countF_len (tk := tk) rok.1 rok.2.1
    generalize eF : countF tk rcs = f at hF
    refine sorted_F (small' (by omega)) ?_
    try dsimp only
    refine for_inv (fun i' ρ M' => ∃ a, ρ = [some (.tup (cs.map wordD)), some (.int n), some (.lst (rcs.map lineD)), some (.ref M.length), some (.ref (M.length + 1)), some (.int i), some (.dn (encF f)), some (.int (pickF f ((sortP (f.map (·.1))).take i')).2), some (pairD (pickF f ((sortP (f.map (·.1))).take i')).1), a, _, _, _, _] ∧
      M' = M ++ [.lst (acc.map pD), .dk (encT tk)]) ⟨e, rfl, rfl⟩ ?_ ?_
    · rintro i' x ρ M' ex' ⟨a, rfl, rfl⟩
      rw [List.getElem?_map] at ex'
      obtain ⟨k', ek, rfl⟩ := Option.map_eq_some_iff.mp ex'
      refine ⟨by rfl, fun go kk => ?_⟩
      have et : (sortP (f.map (·.1))).take (i' + 1) = (sortP (f.map (·.1))).take i' ++ [k'] := by rw [List.take_add_one, ek]; rfl
      have est : pickF f ((sortP (f.map (·.1))).take (i' + 1)) = pickStep f (pickF f ((sortP (f.map (·.1))).take i')) k' := by
        rw [et]
        unfold pickF
        rw [List.foldl_append]
        rfl
      obtain ⟨v, ev⟩ := aGet_key (sortP_mem.mp (List.mem_of_getElem? ek))
      walk_at "dl"
      refine found_at ev ?_
      try dsimp only
      refine gtR_int ?_
      try dsimp only
      refine ite_dec (fun h => ?_) (fun h => ?_)
      · refine found_at ev ?_
        refine .inl (kk _ _ ⟨some (pD k'), ?_, rfl⟩)
        rw [est]
        unfold pickStep
        rw [ev, if_pos (show _ < (some v).getD 0 from h)]
        rfl
      · refine .inl (kk _ _ ⟨some (pD k'), ?_, rfl⟩)
        rw [est]
        unfold pickStep
        rw [ev, if_neg (show ¬ _ < (some v).getD 0 from h)]
    · rintro ρ M' ⟨a, rfl, rfl⟩
      refine ⟨by rfl, ?_⟩
      rw [List.length_map, List.take_length]
      have ech : (pickF f (sortP (f.map (·.1)))).1 = chosen (countF tk rcs) := by rw [eF]; rfl
      rw [ech]
      walk_at "dl"
      refine isNR_q ?_
      try dsimp only
      unfold train at et er
      cases ec : chosen (countF tk rcs) with
      | none =>
        rw [ec] at et er
        refine (if_pos (show D.isN (pairD none) = true from rfl)).symm ▸ ?_
        exact fin rcs tk acc _ _ _ _ _ _ _ _ _ rok.1 (by rw [← et]; simp [rulesOf]) (by rw [← er]; rfl)
      | some p =>
        rw [ec] at et er
        refine (if_neg (show ¬ D.isN (pairD (some p)) = true from Bool.false_ne_true)).symm ▸ ?_
        have hp := chosen_len ec rok.2.1
        obtain ⟨x0, hx0, hpx⟩ := chosen_row ec
        obtain ⟨o1, o2⟩ := pairs_ok (rok.2.2 x0 hx0) hpx
        refine ⟨tyM_lst g0, ?_⟩
        refine append_cell g0 (by rw [List.length_map]; exact small (by omega)) ?_
        rw [set_at0]
        refine ixR_tup (n := 0) rfl (ixR_tup (n := 1) rfl ?_)
        refine addR_str (small' (by omega)) ?_
        try dsimp only
        refine setR_dk (k := Sum.inr (p.1 ++ p.2)) (kvs := encT tk) (get_at _ _ 1) rfl ?_ ?_
        · unfold encT
          rw [List.length_map]
          exact small (by omega)
        rw [set_at, encT_put]
        refine lc_map (sh := .many [13, 11]) ?_ lineD (fun x => lineD (joinedOnce p.1 p.2 x.1, x.2)) rcs (small' (by have := rok.1; omega)) (fun x hx => ⟨_, rfl, fun K k => ?_⟩) ?_
        · rfl
        · walk_at "dl"
          exact ⟨x.1, p, rfl, (rok.2.1 x hx).ok, rok.2.2 x hx, o1, o2, (by show 2 ≤ sizeLine; decide), k⟩
        have e3 : (rcs.map fun x => lineD (joinedOnce p.1 p.2 x.1, x.2)) = (stepRows p rcs).map lineD := by
          unfold stepRows
          rw [List.map_map]
          rfl
        rw [e3]
        refine .inl (k _ _ ⟨stepRows p rcs, aPut tk (p.1 ++ p.2) true, acc ++ [p], _, _, _, _, _, _, _, _, _, rfl, ?_, ?_, ?_, rok.step o1 o2, ?_, ?_⟩)
        · rw [List.map_append]
          rfl
        · have : n - (i + 1) = j := by omega
          rw [this, ← et, List.append_assoc]
          rfl
        · have : n - (i + 1) = j := by omega
          rw [this, ← er]
          rfl
        · rw [List.length_append, List.length_singleton]
          omega
        · have := aPut_len tk (p.1 ++ p.2) true
          omega
  · rintro ρ M' ⟨rcs, tk, acc, a, b, c, d, e, f, g, h, j, rfl, rfl, et, er, rok, ha, htk⟩
    refine ⟨trivial, ?_⟩
    rw [range_len, Nat.sub_self] at et er
    unfold train at et er
    exact fin rcs tk acc _ _ _ _ _ _ _ _ _ rok.1 (by rw [← et]; simp [rulesOf]) (by rw [← er]; rfl)
end K

set_option Elab.async false
set_option linter.all false
set_option maxRecDepth 100000
set_option maxHeartbeats 2000000
namespace K
open PySem L2 DL
open PyProof.Rows hiding St signs inR
local macro_rules | `(tactic| walk_at "dl") => `(tactic| dsimp only [dSeq, dAsg, dgName, dVar, dC, dOp, dUn, dCB, dCons, dNil, dTup, dLst, dLstM, dNewK, dNewN, dRet, dRetN, dDrop, dIfS, dNext, dNever, dB, dAnd, dOr, dNot, dAndV, dOrV, dNotV, dIf, dMeth, dSl, dPart, dNoPart, dFor, dIter, dRange1, dRange2, dZip, dEnum, dLc, dLcM, dDc, dSortSet, dCall, dgSeq, dgSub, dgCons, dgNil, dPar, dAug, dBreak, dCont, dYes, endsD, slot, List.set_cons_zero, List.set_cons_succ, itemsD, listR, listRM, tupleR, viewL, viewS, DL.intOf, dwipe, setAll, Shape.bind])
local macro_rules | `(tactic| walk_at "op") => `(tactic| ((first | refine eqR_int ?_ | refine eqR_str ?_ | refine eqR_bl ?_ | refine neR_int ?_ | refine neR_str ?_ | refine ltR_int ?_ | refine leR_int ?_ | refine gtR_int ?_ | refine geR_int ?_ | refine addR_int ?_ | refine addR_str ?_ ?_ | refine iaddR_int ?_ | refine subR_int ?_ | refine isNR_q ?_ | refine notNR_q ?_ | refine lenR_lst ?_ | refine lenR_tup ?_ | refine intCR_int ?_ | refine intCR_bl ?_ | refine absR_int ?_); (try dsimp only)))
/-! the pool -/
def PS (L : Store) : Prop := ∃ (gs : List Int) (a : Nat) (m : Int), L = [.lst (gs.map D.int), .lst [.ref 0, .int a, .int m]]
theorem PS.len {L : Store} (h : PS L) : L.length = 2 := by
  obtain ⟨gs, a, m, rfl⟩ := h
  rfl
theorem int_bel {n : Nat} (l : List Int) : belows n (l.map D.int) := belows_iff.mpr fun d hd => by
  obtain ⟨x, _, rfl⟩ := List.mem_map.mp hd
  trivial
theorem PS.bel {L : Store} (h : PS L) : ∀ o ∈ L, o.bel L.length := by
  obtain ⟨gs, a, m, rfl⟩ := h
  intro o ho
  rcases List.mem_cons.mp ho with rfl | ho
  · exact int_bel _
  · rcases List.mem_singleton.mp ho with rfl
    exact ⟨(by show 0 < 2; decide), trivial, trivial, trivial⟩
/-- what a def hands back that has changed the pool: L' for L -/
theorem RetOk.pool {L L' G : Store} {d d' : D} {Q : DK} (h : PS L) (h' : PS L') (hz : Fz (L' ++ G) 2 d d') (q : Q d' L') : RetOk L d (L' ++ G) Q := by
  have e := h'.len
  exact .cut (by rw [h.len, e]; exact Nat.le_refl _) h'.bel (by rw [e]; exact hz) q
theorem RetOk.pool0 {L L' : Store} {d : D} {Q : DK} (q : Q d L') : RetOk L d L' Q := .inl q
def sp_u_law_pool : DSp := fun ds M Q => ∃ ns : List Int, ds = [.lst (ns.map D.int)] ∧ M = [] ∧ ns.length ≤ 63 ∧ ∀ M', PS M' → Q (.ref 1) M'
theorem dat_u_law_pool (ds : List D) (M : Store) (Q : DK) (h : sp_u_law_pool ds M Q) : t_u_law_pool (endsD M Q) (startD 5 ds) M := by
  obtain ⟨ns, rfl, rfl, hn, q⟩ := h
  show t_u_law_pool (endsD [] Q) [some (.lst (ns.map D.int)), none, none, none, none] []
  unfold t_u_law_pool
  walk_at "dl"
  refine ⟨Nat.zero_le _, ?_⟩
  refine lenR_lst (addR_int ?_)
  try dsimp only
  refine for_inv (fun i ρ M' => ∃ (m : Int) (gs : List Int) (a b : Option D), ρ = [some (.lst (ns.map D.int)), some (.ref 0), some (.int m), a, b] ∧ M' = [.lst (gs.map D.int)] ∧ gs.length ≤ i) ⟨_, [], none, none, rfl, rfl, Nat.le_refl _⟩ ?_ ?_
  · rintro i x ρ M' ex ⟨m, gs, a, b, rfl, rfl, hg⟩
    rw [List.getElem?_map] at ex
    obtain ⟨z, ez, rfl⟩ := Option.map_eq_some_iff.mp ex
    have hi : i < ns.length := (List.getElem?_eq_some_iff.mp ez).1
    refine ⟨by rfl, fun go k => ?_⟩
    walk_at "dl"
    refine absR_int ?_
    try dsimp only
    generalize (if z < 0 then -z else z) = sz
    refine powR_int (by unfold CPow; decide) ?_
    refine geR_int ?_
    try dsimp only
    have fin : ∀ gs' : List Int, gs'.length ≤ i + 1 → intCR [.int m] [.lst (gs'.map D.int)] fun x M1 => mulR x (.int 53891) M1 fun x M1 => intCR [.int sz] M1 fun x_1 M1 => modR x_1 (.int 2147483423) M1 fun y M1 => addR x y M1 fun x M1 =>
        ltR (.int z) (.int 0) M1 fun x_2 M1 => intCR [x_2] M1 fun y M1 => mulR (.int 17) y M1 fun y M1 => addR x y M1 fun x M1 => addR x (.int 8) M1 fun x M1 => modR x (.int 2147483423) M1 fun d M1 =>
        DL.TurnOk [MO.lst (gs.map D.int)] [some (.lst (ns.map D.int)), some (.ref 0), some d, some (.int z), some (.int sz)] M1 go := fun gs' hg' => by
      refine intCR_int (mulR_int (.inr ⟨by decide, by decide⟩) (intCR_int (modR_int (by decide) (addR_int (ltR_int (intCR_bl (mulR_int (.inl ⟨by decide, by decide⟩) (addR_int (addR_int (modR_int (by decide) ?_))))))))))
      exact .inl (k _ _ ⟨_, gs', _, _, rfl, rfl, hg'⟩)
    refine ite_dec (fun h => ?_) (fun h => ?_)
    · refine ⟨tyM_lst (ds := gs.map D.int) rfl, ?_⟩
      refine append_cell (ds := gs.map D.int) rfl (by rw [List.length_map]; exact small (by omega)) ?_
      have := fin (gs ++ [sz]) (by rw [List.length_append, List.length_singleton]; omega)
      rw [List.map_append] at this
      exact this
    · exact fin gs (by omega)
  · rintro ρ M' ⟨m, gs, a, b, rfl, rfl, hg⟩
    refine ⟨by rfl, ?_⟩
    walk_at "dl"
    exact ⟨(by show 3 ≤ sizeLine; decide), .inl (q _ ⟨gs, 0, m, rfl⟩)⟩
def sp_u_law_draw : DSp := fun ds M Q => ∃ (L rest : Store) (many : Nat), ds = [.ref 1, .int many] ∧ M = L ++ rest ∧ PS L ∧ many < 1073741824 ∧ ∀ (v : Nat) (L' : Store), PS L' → v < max many 1 → Q (.int v) (L' ++ rest)
theorem fmod_nat {x : Int} {n : Nat} (h : 0 < n) : ∃ v : Nat, x.fmod n = v ∧ v < n := by
  have h1 : 0 ≤ x.fmod n := Int.fmod_nonneg_of_pos x (by omega)
  have h2 : x.fmod n < n := Int.fmod_lt_of_pos x (by omega)
  exact ⟨(x.fmod n).toNat, by omega, by omega⟩
theorem dat_u_law_draw (ds : List D) (M : Store) (Q : DK) (h : sp_u_law_draw ds M Q) : t_u_law_draw (endsD M Q) (startD 5 ds) M := by
  obtain ⟨L, rest, many, rfl, rfl, ⟨gs, a, m, rfl⟩, hm, q⟩ := h
  show t_u_law_draw (endsD _ Q) [some (.ref 1), some (.int many), none, none, none] _
  unfold t_u_law_draw
  walk_at "dl"
  refine ltR_int ?_
  try dsimp only
  refine ite_dec (fun h => ?_) (fun h => ?_)
  · exact .inl (q 0 _ ⟨gs, a, m, rfl⟩ (by omega))
  have h2 : 2 ≤ many := by omega
  refine ixR_cell (n := 0) (ds := [.ref 0, .int a, .int m]) rfl rfl ?_
  refine ixR_cell (n := 1) (ds := [.ref 0, .int a, .int m]) rfl rfl ?_
  refine lenR_cell (ds := gs.map D.int) rfl ?_
  refine ltR_int ?_
  try dsimp only
  rw [List.length_map]
  refine ite_dec (fun h => ?_) (fun h => ?_)
  · have ha : a < gs.length := by omega
    have ex : gs[a]? = some gs[a] := List.getElem?_eq_getElem ha
    refine ixR_cell (n := 1) (ds := [.ref 0, .int a, .int m]) rfl rfl ?_
    refine ixR_cell (ds := gs.map D.int) rfl (by rw [List.getElem?_map, ex]; rfl) ?_
    refine intCR_int ?_
    try dsimp only
    refine fdivR_int ⟨by omega, by omega⟩ ?_
    try dsimp only
    refine ixR_cell (n := 1) (ds := [.ref 0, .int a, .int m]) rfl rfl ?_
    refine setR_lst (ds := gs.map D.int) rfl (by rw [List.length_map]; exact ha) ?_
    refine ltR_int ?_
    try dsimp only
    have es : (gs.map D.int).set a (.int (gs[a].fdiv many)) = (gs.set a (gs[a].fdiv many)).map D.int := by rw [List.map_set]
    rw [es]
    obtain ⟨v, ev, hv⟩ := fmod_nat (x := gs[a]) (n := many) (by omega)
    refine ite_dec (fun h => ?_) (fun h => ?_)
    · refine ixR_cell (n := 1) (ds := [.ref 0, .int a, .int m]) rfl rfl ?_
      refine addR_int ?_
      try dsimp only
      refine setR_lst (j := 1) (ds := [.ref 0, .int a, .int m]) rfl (by show 1 < 3; decide) ?_
      refine intCR_int (modR_int (by omega) ?_)
      rw [ev]
      exact .inl (q v [.lst ((gs.set a (gs[a].fdiv many)).map D.int), .lst [.ref 0, .int ((a + 1 : Nat) : Int), .int m]] ⟨_, a + 1, m, rfl⟩ (by omega))
    · refine intCR_int (modR_int (by omega) ?_)
      rw [ev]
      exact .inl (q v [.lst ((gs.set a (gs[a].fdiv many)).map D.int), .lst [.ref 0, .int a, .int m]] ⟨_, a, m, rfl⟩ (by omega))
  · refine ixR_cell (n := 2) (ds := [.ref 0, .int a, .int m]) rfl rfl ?_
    refine intCR_int (mulR_int (.inr ⟨by decide, by decide⟩) (addR_int (modR_int (by decide) ?_)))
    try dsimp only
    generalize Int.fmod _ _ = m'
    refine setR_lst (j := 2) (ds := [.ref 0, .int a, .int m]) rfl (by show 2 < 3; decide) ?_
    refine mulR_int (.inr ⟨by decide, by decide⟩) (fdivR_int ⟨by decide, by decide⟩ (addR_int (intCR_int (modR_int (by decide) (fdivR_int ⟨by decide, by decide⟩ (modR_int (by omega) ?_))))))
    obtain ⟨v, ev, hv⟩ := fmod_nat (x := ((m' * 6733 + m'.fdiv 32771).fmod 1000121).fdiv 16) (n := many) (by omega)
    rw [ev]
    exact .inl (q v [.lst (gs.map D.int), .lst [.ref 0, .int a, .int m']] ⟨_, a, m', rfl⟩ (by omega))
end K

set_option Elab.async false
set_option linter.all false
set_option maxRecDepth 100000
set_option maxHeartbeats 2000000
namespace K
open PySem L2 DL
open PyProof.Rows hiding St signs inR
local macro_rules | `(tactic| walk_at "dl") => `(tactic| dsimp only [dSeq, dAsg, dgName, dVar, dC, dOp, dUn, dCB, dCons, dNil, dTup, dLst, dLstM, dNewK, dNewN, dRet, dRetN, dDrop, dIfS, dNext, dNever, dB, dAnd, dOr, dNot, dAndV, dOrV, dNotV, dIf, dMeth, dSl, dPart, dNoPart, dFor, dIter, dRange1, dRange2, dZip, dEnum, dLc, dLcM, dDc, dSortSet, dCall, dgSeq, dgSub, dgCons, dgNil, dPar, dAug, dBreak, dCont, dYes, endsD, slot, List.set_cons_zero, List.set_cons_succ, itemsD, listR, listRM, tupleR, viewL, viewS, DL.intOf, dwipe, setAll, Shape.bind])
local macro_rules | `(tactic| walk_at "op") => `(tactic| ((first | refine eqR_int ?_ | refine eqR_str ?_ | refine eqR_bl ?_ | refine neR_int ?_ | refine neR_str ?_ | refine ltR_int ?_ | refine leR_int ?_ | refine gtR_int ?_ | refine geR_int ?_ | refine addR_int ?_ | refine addR_str ?_ ?_ | refine iaddR_int ?_ | refine subR_int ?_ | refine isNR_q ?_ | refine notNR_q ?_ | refine lenR_lst ?_ | refine lenR_tup ?_ | refine intCR_int ?_ | refine intCR_bl ?_ | refine absR_int ?_); (try dsimp only)))
theorem erase_map {α β : Type} (f : α → β) : ∀ (l : List α) (n : Nat), (l.map f).eraseIdx n = (l.eraseIdx n).map f
  | [], n => rfl
  | x :: l, 0 => rfl
  | x :: l, n + 1 => by
    show f x :: (l.map f).eraseIdx n = f x :: (l.eraseIdx n).map f
    rw [erase_map f l n]
def alpha : List Str := signs "gGhHiIjJkKlLmMnNoOpPqQrRsStTuUvVwWxXyYzZaAbBcCdDeEfF"
theorem alpha_len : alpha.length = 52 := by decide +kernel
theorem alpha_nd : alpha.Nodup := by decide +kernel
theorem alpha_ok : ∀ c ∈ alpha, PyData.strOk c = true := by decide +kernel
/-- n letters, each once, rising -/
def LetOk (z : Str) (n : Nat) : Prop := (signs z).length = n ∧ (signs z).Nodup ∧ (signs z).Pairwise (fun a b => leS a b = true) ∧ PyData.strOk z = true
theorem LetOk.len {z : Str} {n : Nat} (h : LetOk z n) : z.length = n := by rw [DL.len_signs]; exact h.1
def sp_u_law_letters : DSp := fun ds M Q => ∃ many : Nat, ds = [.ref 1, .int many] ∧ PS M ∧ many ≤ 26 ∧ ∀ (z : Str) (M' : Store), PS M' → LetOk z many → Q (.str z) M'
theorem dat_u_law_letters (ds : List D) (M : Store) (Q : DK) (h : sp_u_law_letters ds M Q) : t_u_law_letters sp_u_law_draw (endsD M Q) (startD 5 ds) M := by
  obtain ⟨many, rfl, ⟨gs, a, m, rfl⟩, hm, q⟩ := h
  show t_u_law_letters _ (endsD _ Q) [some (.ref 1), some (.int many), none, none, none] _
  unfold t_u_law_letters
  walk_at "dl"
  rw [if_pos (small' (by decide +kernel))]
  walk_at "dl"
  refine ⟨Nat.zero_le _, by omega, by omega, ?_⟩
  try dsimp only
  rw [Int.toNat_natCast]
  refine for_inv (fun i ρ M' => ∃ (L : Store) (left picked : List Str) (x : Option D), ρ = [some (.ref 1), some (.int many), some (.ref 2), some (.ref 3), x] ∧ PS L ∧ M' = L ++ [.lst (left.map D.str), .lst (picked.map D.str)] ∧ (picked ++ left).Perm alpha ∧ picked.length = i)
    ⟨_, alpha, [], none, rfl, ⟨gs, a, m, rfl⟩, rfl, List.Perm.refl _, rfl⟩ ?_ ?_
  · rintro i x ρ M' ex ⟨L, left, picked, x', rfl, hL, rfl, pm, hp⟩
    obtain ⟨rfl, hi⟩ := range_item ex
    have hlen := pm.length_eq
    rw [alpha_len, List.length_append] at hlen
    refine ⟨trivial, fun go k => ?_⟩
    obtain ⟨gs, a, m, rfl⟩ := hL
    walk_at "dl"
    refine ⟨tyM_lst (ds := picked.map D.str) rfl, tyM_lst (ds := left.map D.str) rfl, ?_⟩
    refine lenR_cell (ds := left.map D.str) rfl ?_
    rw [List.length_map]
    refine ⟨_, [.lst (left.map D.str), .lst (picked.map D.str)], left.length, rfl, rfl, ⟨gs, a, m, rfl⟩, by omega, fun v L' hL' hv => ?_⟩
    obtain ⟨gs', a', m', rfl⟩ := hL'
    have hvl : v < left.length := by omega
    have ev : left[v]? = some left[v] := List.getElem?_eq_getElem hvl
    refine pop_cell (ds := left.map D.str) rfl (by rw [List.getElem?_map, ev]; rfl) (by rw [List.length_map]; exact small' (by omega)) ?_
    refine append_cell (ds := picked.map D.str) rfl (by rw [List.length_map]; exact small (by omega)) ?_
    refine .inl (k _ _ ⟨[.lst (gs'.map D.int), .lst [.ref 0, .int a', .int m']], left.eraseIdx v, picked ++ [left[v]], _, rfl, ⟨gs', a', m', rfl⟩, ?_, ?_, by rw [List.length_append, List.length_singleton, hp]⟩)
    · show [MO.lst (gs'.map D.int), .lst [.ref 0, .int a', .int m'], .lst ((left.map D.str).eraseIdx v), .lst (picked.map D.str ++ [D.str left[v]])] = _
      rw [List.map_append, erase_map]
      rfl
    · rw [List.append_assoc]
      exact (List.Perm.append_left picked (erase_perm left v left[v] ev)).trans pm
  · rintro ρ M' ⟨L, left, picked, x', rfl, hL, rfl, pm, hp⟩
    refine ⟨trivial, ?_⟩
    rw [range_len] at hp
    have hL' := hL
    obtain ⟨gs', a', m', rfl⟩ := hL'
    have sub : ∀ c ∈ picked, c ∈ alpha := fun c hc => pm.mem_iff.mp (List.mem_append_left _ hc)
    have nd : picked.Nodup := (List.nodup_append.mp (pm.nodup_iff.mpr alpha_nd)).1
    have one : ∀ c ∈ sortS picked, One c := fun c hc => signs_one (sub c (sortS_mem.mp hc))
    walk_at "dl"
    refine ⟨rfl, ?_⟩
    refine sorted_strs (srcD_cell (ds := picked.map D.str) rfl) (small' (by omega)) ?_
    try dsimp only
    refine joinR_at rfl (by rw [ones_sum one, sortS_len]; omega) ?_
    refine K.RetOk.pool ⟨gs, a, m, rfl⟩ hL (.keep trivial) (q _ _ hL ?_)
    have es := signs_join_one one
    refine ⟨by rw [es, sortS_len]; exact hp, by rw [es]; exact sortS_nodup nd, by rw [es]; exact sortS_pair _, ?_⟩
    rw [strOk_signs, es]
    exact fun c hc => alpha_ok c (sub c (sortS_mem.mp hc))
/-! words -/
def In (S : List Str) (w : Str) : Prop := ∀ c ∈ signs w, c ∈ S
theorem In.app {S : List Str} {a b : Str} (h1 : In S a) (h2 : In S b) : In S (a ++ b) := fun c hc => by
  rw [signs_app] at hc
  rcases List.mem_append.mp hc with h | h
  · exact h1 c h
  · exact h2 c h
theorem In.ok {z w : Str} (h : In (signs z) w) (hz : PyData.strOk z = true) : PyData.strOk w = true := strOk_signs.mpr fun c hc => strOk_signs.mp hz c (h c hc)
/-- [letters[draw(len(letters))] for lap in range(n)] : n letters -/
theorem picks {z : Str} {n kk : Nat} {L0 : Store} {ρ : Env'} {Q : List D → Store → Prop} (hz : 1 ≤ z.length) (hz2 : z.length ≤ 1000) (hL0 : PS L0) (hn : n ≤ 1000) (h0 : slot (dwipe ρ [kk]) 0 = some (.ref 1)) (h1 : slot (dwipe ρ [kk]) 1 = some (.str z)) (h2 : 2 ≤ kk)
    (fin : ∀ (ys : List Str) (L : Store), PS L → ys.length = n → (∀ y ∈ ys, y ∈ signs z) → Q (ys.map D.str) L) :
    lcGo (.one kk) [kk] (fun _ => True) dYes (dOp ixR (dVar 1) (dCall sp_u_law_draw (dCons (dVar 0) (dCons (dCB lenR (dCons (dVar 1) dNil)) dNil)))) ρ (rangeD 0 n) L0 [] Q := by
  have sl : ∀ (ρ : Env') (d : D) (j : Nat), j < kk → slot (ρ.set kk (some d)) j = slot ρ j := fun ρ d j hj => by
    induction ρ generalizing j kk with
    | nil => rfl
    | cons x r ih =>
      cases kk with
      | zero => omega
      | succ kk =>
        cases j with
        | zero => rfl
        | succ j =>
          clear ih
          show slot (r.set kk (some d)) j = slot r j
          have gen : ∀ (r : Env') (kk j : Nat), j < kk → slot (r.set kk (some d)) j = slot r j := fun r => by
            induction r with
            | nil => intro kk j _; rfl
            | cons x r ih =>
              intro kk j hj
              cases kk with
              | zero => omega
              | succ kk => cases j with
                | zero => rfl
                | succ j => exact ih kk j (by omega)
          exact gen r kk j (by omega)
  refine lc_inv (fun i M acc => PS M ∧ ∃ ys : List Str, acc = ys.map D.str ∧ ys.length = i ∧ ∀ y ∈ ys, y ∈ signs z) ⟨hL0, [], rfl, rfl, fun y hy => by cases hy⟩ (fun i x M acc ex h => ?_) fun M acc h => ?_
  · obtain ⟨hL, ys, rfl, hl, hy⟩ := h
    obtain ⟨rfl, hi⟩ := range_item ex
    refine ⟨trivial, _, rfl, fun go k => ?_⟩
    unfold dYes
    dsimp only
    rw [if_pos rfl]
    dsimp only [dOp, dVar, dCall, dCons, dCB, dNil]
    rw [sl _ _ 1 (by omega), sl _ _ 0 (by omega), h1, h0]
    dsimp only
    refine lenR_str (small' (by omega)) ?_
    refine ⟨M, [], z.length, rfl, (List.append_nil _).symm, hL, by omega, fun v L' hL' hv => ?_⟩
    rw [List.append_nil]
    have hv2 : v < (signs z).length := by rw [← DL.len_signs]; omega
    have ev : (signs z)[v]? = some (signs z)[v] := List.getElem?_eq_getElem hv2
    refine ixR_sign (small' (by omega)) ev ⟨by rw [List.length_map]; exact small (by omega), k _ _ ⟨hL', ys ++ [(signs z)[v]], by rw [List.map_append]; rfl, by rw [List.length_append, List.length_singleton, hl], fun y hy' => ?_⟩⟩
    rcases List.mem_append.mp hy' with h | h
    · exact hy y h
    · rw [List.mem_singleton.mp h]
      exact List.getElem_mem _
  · obtain ⟨hL, ys, rfl, hl, hy⟩ := h
    rw [range_len] at hl
    exact ⟨trivial, fin ys M hL hl hy⟩
end K

set_option Elab.async false
set_option linter.all false
set_option maxRecDepth 100000
set_option maxHeartbeats 2000000
namespace K
open PySem L2 DL
open PyProof.Rows hiding St signs inR
local macro_rules | `(tactic| walk_at "dl") => `(tactic| dsimp only [dSeq, dAsg, dgName, dVar, dC, dOp, dUn, dCB, dCons, dNil, dTup, dLst, dLstM, dNewK, dNewN, dRet, dRetN, dDrop, dIfS, dNext, dNever, dB, dAnd, dOr, dNot, dAndV, dOrV, dNotV, dIf, dMeth, dSl, dPart, dNoPart, dFor, dIter, dRange1, dRange2, dZip, dEnum, dLc, dLcM, dDc, dSortSet, dCall, dgSeq, dgSub, dgCons, dgNil, dPar, dAug, dBreak, dCont, dYes, endsD, slot, List.set_cons_zero, List.set_cons_succ, itemsD, listR, listRM, tupleR, viewL, viewS, DL.intOf, dwipe, setAll, Shape.bind])
local macro_rules | `(tactic| walk_at "op") => `(tactic| ((first | refine eqR_int ?_ | refine eqR_str ?_ | refine eqR_bl ?_ | refine neR_int ?_ | refine neR_str ?_ | refine ltR_int ?_ | refine leR_int ?_ | refine gtR_int ?_ | refine geR_int ?_ | refine addR_int ?_ | refine addR_str ?_ ?_ | refine iaddR_int ?_ | refine subR_int ?_ | refine isNR_q ?_ | refine notNR_q ?_ | refine lenR_lst ?_ | refine lenR_tup ?_ | refine intCR_int ?_ | refine intCR_bl ?_ | refine absR_int ?_); (try dsimp only)))
theorem draw_at {M : Store} {many : Nat} {Q : DK} (h : PS M) (hm : many < 1073741824) (k : ∀ (v : Nat) (L' : Store), PS L' → v < max many 1 → Q (.int v) L') : sp_u_law_draw [.ref 1, .int many] M Q :=
  ⟨M, [], many, rfl, (List.append_nil _).symm, h, hm, fun v L' hL hv => by rw [List.append_nil]; exact k v L' hL hv⟩
def LetsOk (z : Str) : Prop := 1 ≤ z.length ∧ z.length ≤ 26 ∧ PyData.strOk z = true
def sp_u_law_word : DSp := fun ds M Q => ∃ (z : Str) (most : Nat), ds = [.ref 1, .str z, .int most] ∧ PS M ∧ LetsOk z ∧ most ≤ 100 ∧ ∀ (w : Str) (M' : Store), PS M' → w.length < 1000 → In (signs z) w → Q (.str w) M'
theorem fdiv_small {a b : Nat} (h : 0 < b) : ∃ k : Nat, ((a : Nat) : Int).fdiv ((b : Nat) : Int) = k ∧ k ≤ a := by
  refine ⟨a / b, ?_, Nat.div_le_self _ _⟩
  rw [Int.fdiv_eq_ediv_of_nonneg _ (by omega)]
  rfl
theorem dat_u_law_word (ds : List D) (M : Store) (Q : DK) (h : sp_u_law_word ds M Q) : t_u_law_word sp_u_law_draw (endsD M Q) (startD 8 ds) M := by
  obtain ⟨z, most, rfl, hM, ⟨z1, z2, z3⟩, hm, q⟩ := h
  show t_u_law_word _ (endsD _ Q) [some (.ref 1), some (.str z), some (.int most), none, none, none, none, none] _
  unfold t_u_law_word
  walk_at "dl"
  refine ⟨rfl, ?_⟩
  refine draw_at (many := 4) hM (by omega) fun v L1 hL1 hv => ?_
  refine addR_int ?_
  try dsimp only
  refine ⟨by omega, by omega, ?_⟩
  have e1 : ((1 : Int) + (v : Nat)).toNat = 1 + v := by omega
  rw [e1]
  refine picks z1 (by omega) hL1 (by omega) rfl rfl (by omega) fun ys L2 hL2 hl hy => ?_
  have one : ∀ y ∈ ys, One y := fun y h => signs_one (hy y h)
  have es := signs_join_one one
  refine joinR_at rfl (by rw [ones_sum one]; omega) ?_
  have hbl : (Txt.join ⟨#[]⟩ ys).length = 1 + v := by rw [DL.len_signs, es]; exact hl
  have hbi : In (signs z) (Txt.join ⟨#[]⟩ ys) := fun c hc => by rw [es] at hc; exact hy c hc
  generalize Txt.join ⟨#[]⟩ ys = block at hbl hbi
  refine draw_at hL2 (by omega) fun v2 L3 hL3 hv2 => ?_
  refine addR_int ?_
  try dsimp only
  refine lenR_str (small' (by omega)) ?_
  rw [hbl]
  refine fdivR_int ⟨by omega, by omega⟩ ?_
  try dsimp only
  obtain ⟨k, ek, hk⟩ := fdiv_small (a := 1 + v2) (b := 1 + v) (by omega)
  have ek' : ((1 : Int) + (v2 : Nat)).fdiv ((1 + v : Nat) : Int) = k := ek
  rw [ek']
  refine addR_int ?_
  have ek2 : ((k : Nat) : Int) + 1 = ((k + 1 : Nat) : Int) := rfl
  rw [ek2]
  refine mulR_str (mulOk (by omega) (by omega)) ?_
  have hml := mul_len block (n := ((k + 1 : Nat) : Int)) (by omega)
  rw [Int.toNat_natCast, hbl] at hml
  have hml2 : (Txt.mul block ((k + 1 : Nat) : Int)).length ≤ 4 * 101 := Nat.le_trans hml (Nat.mul_le_mul (by omega) (by omega))
  try dsimp only
  refine sliceR_str (small' (by omega)) ?_
  try dsimp only
  have hti : In (signs z) (cutS (Txt.mul block ((k + 1 : Nat) : Int)) none (some (1 + (v2 : Nat)))) := fun c hc => hbi c (signs_mul (signs_cut hc))
  have htl := Nat.le_trans (cutS_length (Txt.mul block ((k + 1 : Nat) : Int)) none (some (1 + (v2 : Nat)))) hml2
  generalize cutS (Txt.mul block ((k + 1 : Nat) : Int)) none (some (1 + (v2 : Nat))) = text at hti htl
  refine draw_at (many := 3) hL3 (by omega) fun v3 L4 hL4 hv3 => ?_
  refine eqR_int ?_
  try dsimp only
  refine ite_dec (fun h => ?_) (fun h => ?_)
  · refine draw_at (many := 1 + v2) hL4 (by omega) fun at_ L5 hL5 hat => ?_
    try dsimp only
    refine sliceR_str (small' (by omega)) ?_
    try dsimp only
    refine lenR_str (small' (by omega)) ?_
    refine draw_at hL5 (by omega) fun v4 L6 hL6 hv4 => ?_
    have hv4' : v4 < (signs z).length := by rw [← DL.len_signs]; omega
    have ev : (signs z)[v4]? = some (signs z)[v4] := List.getElem?_eq_getElem hv4'
    refine ixR_sign (small' (by omega)) ev ?_
    have hin : (signs z)[v4] ∈ signs z := List.getElem_mem _
    have h1l := cutS_length text none (some ((at_ : Nat) : Int))
    have ol := one_len (signs_one hin)
    refine addR_str (small' (by omega)) ?_
    try dsimp only
    refine addR_int ?_
    try dsimp only
    refine sliceR_str (small' (by omega)) ?_
    try dsimp only
    have h2l := cutS_length text (some (((at_ : Nat) : Int) + 1)) none
    refine addR_str (small' (by rw [len_app]; omega)) ?_
    try dsimp only
    refine .inl (q _ _ hL6 (by rw [len_app, len_app]; omega) (.app (.app (fun c hc => hti c (signs_cut hc)) fun c hc => ?_) fun c hc => hti c (signs_cut hc)))
    rw [signs_one_eq (signs_one hin)] at hc
    rw [List.mem_singleton.mp hc]
    exact hin
  · exact .inl (q _ _ hL4 (by omega) hti)
def sp_u_law_count : DSp := fun ds M Q => ∃ same : Int, ds = [.ref 1, .int same] ∧ PS M ∧ ∀ (v : Int) (M' : Store), PS M' → Q (.int v) M'
theorem dat_u_law_count (ds : List D) (M : Store) (Q : DK) (h : sp_u_law_count ds M Q) : t_u_law_count sp_u_law_draw (endsD M Q) (startD 3 ds) M := by
  obtain ⟨same, rfl, hM, q⟩ := h
  show t_u_law_count _ (endsD _ Q) [some (.ref 1), some (.int same), none] _
  unfold t_u_law_count
  walk_at "dl"
  refine draw_at (many := 6) hM (by omega) fun v L1 hL1 hv => ?_
  refine eqR_int ?_
  try dsimp only
  refine ite_dec (fun h => .inl (q _ _ hL1)) (fun h => ?_)
  refine ltR_int ?_
  try dsimp only
  refine ite_dec (fun h => .inl (q _ _ hL1)) (fun h => ?_)
  refine eqR_int ?_
  try dsimp only
  refine ite_dec (fun h => ?_) (fun h => ?_)
  · refine powR_int (by unfold CPow; decide) ?_
    refine draw_at (many := 3) hL1 (by omega) fun v2 L2 hL2 hv2 => subR_int ?_
    exact .inl (q _ _ hL2)
  · refine draw_at (many := 5) hL1 (by omega) fun v2 L2 hL2 hv2 => addR_int ?_
    exact .inl (q _ _ hL2)
end K

set_option Elab.async false
set_option linter.all false
set_option maxRecDepth 100000
set_option maxHeartbeats 2000000
namespace K
open PySem L2 DL
open PyProof.Rows hiding St signs inR
local macro_rules | `(tactic| walk_at "dl") => `(tactic| dsimp only [dSeq, dAsg, dgName, dVar, dC, dOp, dUn, dCB, dCons, dNil, dTup, dLst, dLstM, dNewK, dNewN, dRet, dRetN, dDrop, dIfS, dNext, dNever, dB, dAnd, dOr, dNot, dAndV, dOrV, dNotV, dIf, dMeth, dSl, dPart, dNoPart, dFor, dIter, dRange1, dRange2, dZip, dEnum, dLc, dLcM, dDc, dSortSet, dCall, dgSeq, dgSub, dgCons, dgNil, dPar, dAug, dBreak, dCont, dYes, endsD, slot, List.set_cons_zero, List.set_cons_succ, itemsD, listR, listRM, tupleR, viewL, viewS, DL.intOf, dwipe, setAll, Shape.bind])
local macro_rules | `(tactic| walk_at "op") => `(tactic| ((first | refine eqR_int ?_ | refine eqR_str ?_ | refine eqR_bl ?_ | refine neR_int ?_ | refine neR_str ?_ | refine ltR_int ?_ | refine leR_int ?_ | refine gtR_int ?_ | refine geR_int ?_ | refine addR_int ?_ | refine addR_str ?_ ?_ | refine iaddR_int ?_ | refine subR_int ?_ | refine isNR_q ?_ | refine notNR_q ?_ | refine lenR_lst ?_ | refine lenR_tup ?_ | refine intCR_int ?_ | refine intCR_bl ?_ | refine absR_int ?_); (try dsimp only)))
theorem ddS_mem {c : Str} : ∀ {r l : List Str}, c ∈ ddS l r → c ∈ l ∨ c ∈ r
  | [], l, h => .inl h
  | k :: r, l, h => by
    have h : c ∈ ddS (if k ∈ l then l else k :: l) r := h
    rcases ddS_mem h with h | h
    · split at h
      · exact .inl h
      · rcases List.mem_cons.mp h with z | z
        · exact .inr (by rw [z]; exact List.mem_cons_self ..)
        · exact .inl z
    · exact .inr (List.mem_cons_of_mem _ h)
def sp_u_law_corpus : DSp := fun ds M Q => ∃ (z : Str) (most many : Nat), ds = [.ref 1, .str z, .int most, .int many] ∧ PS M ∧ LetsOk z ∧ most ≤ 100 ∧ many ≤ 100 ∧
  ∀ (cs : List (Str × Int)) (M' : Store), PS M' → CorpS cs → (∀ x ∈ cs, In (signs z) x.1) → cs.length ≤ many → Q (.tup (cs.map wordD)) M'
theorem dat_u_law_corpus (ds : List D) (M : Store) (Q : DK) (h : sp_u_law_corpus ds M Q) : t_u_law_corpus sp_u_law_word sp_u_law_draw sp_u_law_count (endsD M Q) (startD 8 ds) M := by
  obtain ⟨z, most, many, rfl, hM, hz, hm1, hm2, q⟩ := h
  show t_u_law_corpus _ _ _ (endsD _ Q) [some (.ref 1), some (.str z), some (.int most), some (.int many), none, none, none, none] _
  unfold t_u_law_corpus
  walk_at "dl"
  refine ⟨by omega, by omega, ?_⟩
  rw [Int.toNat_natCast]
  refine lc_inv (fun i M acc => PS M ∧ ∃ ys : List Str, acc = ys.map D.str ∧ ys.length = i ∧ ∀ y ∈ ys, y.length < 1000 ∧ In (signs z) y) ⟨hM, [], rfl, rfl, fun y hy => by cases hy⟩ (fun i x M acc ex h => ?_) fun M acc h => ?_
  · obtain ⟨hL, ys, rfl, hl, hy⟩ := h
    obtain ⟨rfl, hi⟩ := range_item ex
    refine ⟨trivial, _, rfl, fun go k => ?_⟩
    walk_at "dl"
    rw [if_pos rfl]
    refine ⟨z, most, rfl, hL, hz, hm1, fun w L' hL' hw hi' => ⟨by rw [List.length_map]; exact small (by omega), k _ _ ⟨hL', ys ++ [w], by rw [List.map_append]; rfl, by rw [List.length_append, List.length_singleton, hl], fun y hy' => ?_⟩⟩⟩
    rcases List.mem_append.mp hy' with h | h
    · exact hy y h
    · rw [List.mem_singleton.mp h]
      exact ⟨hw, hi'⟩
  obtain ⟨hL, ws, rfl, hl, hy⟩ := h
  rw [range_len] at hl
  refine ⟨trivial, ?_⟩
  refine draw_at (many := 4) hL (by omega) fun v L1 hL1 hv => addR_int ?_
  try dsimp only
  refine ⟨ws, rfl, Nat.lt_of_le_of_lt (by omega : ws.length ≤ 100) (by decide), ?_⟩
  have hsl : (sortS (ddS [] ws)).length ≤ many := by
    have := ddS_len ws []
    rw [List.length_nil] at this
    rw [sortS_len]
    omega
  have hmem : ∀ c ∈ sortS (ddS [] ws), c.length < 1000 ∧ In (signs z) c := fun c hc => by
    rcases ddS_mem (sortS_mem.mp hc) with h | h
    · cases h
    · exact hy c h
  generalize sortS (ddS [] ws) = ks at hsl hmem
  try dsimp only
  refine lc_inv (fun i M acc => PS M ∧ ∃ cs : List (Str × Int), acc = cs.map wordD ∧ cs.length = i ∧ ∀ x ∈ cs, x.1 ∈ ks) ⟨hL1, [], rfl, rfl, fun y hy => by cases hy⟩ (fun i x M acc ex h => ?_) fun M acc h => ?_
  · obtain ⟨hL, cs, rfl, hl, hc⟩ := h
    rw [List.getElem?_map] at ex
    obtain ⟨c, ec, rfl⟩ := Option.map_eq_some_iff.mp ex
    have hi : i < ks.length := (List.getElem?_eq_some_iff.mp ec).1
    refine ⟨rfl, _, rfl, fun go k => ?_⟩
    walk_at "dl"
    rw [if_pos rfl]
    refine ⟨_, rfl, hL, fun v L' hL' => ⟨(by show 2 ≤ sizeLine; decide), by rw [List.length_map]; exact small (by omega), k _ _ ⟨hL', cs ++ [(c, v)], by rw [List.map_append]; rfl, by rw [List.length_append, List.length_singleton, hl], fun y hy' => ?_⟩⟩⟩
    rcases List.mem_append.mp hy' with h | h
    · exact hc y h
    · rw [List.mem_singleton.mp h]
      exact List.mem_of_getElem? ec
  obtain ⟨hL2, cs, rfl, hl2, hc⟩ := h
  rw [List.length_map] at hl2
  refine ⟨rfl, .inl (q cs M hL2 ⟨⟨by omega, fun x hx => (hmem _ (hc x hx)).1⟩, fun x hx => (hmem _ (hc x hx)).2.ok hz.2.2⟩ (fun x hx => (hmem _ (hc x hx)).2) (by omega))⟩
/-! the wide corpus -/
theorem lc_signs {sh : Shape} {vs : List Nat} {keep : Store → Prop} {te : DTE} {ρ : Env'} {Q : List D → Store → Prop} {M : Store} {z : Str} {xs : List D} (kp : keep M) (hl : xs.length ≤ 1000)
    (step : ∀ x ∈ xs, ∃ ρ2, sh.bind x (dwipe ρ vs) = some ρ2 ∧ ∃ c ∈ signs z, ∀ K : DK, K (.str c) M → te ρ2 M K) (fin : ∀ ys : List Str, ys.length = xs.length → (∀ y ∈ ys, y ∈ signs z) → Q (ys.map D.str) M) : lcGo sh vs keep dYes te ρ xs M [] Q := by
  refine lc_inv (fun i M' acc => M' = M ∧ ∃ ys : List Str, acc = ys.map D.str ∧ ys.length = i ∧ ∀ y ∈ ys, y ∈ signs z) ⟨rfl, [], rfl, rfl, fun y hy => by cases hy⟩ (fun i x M' acc ex h => ?_) fun M' acc h => ?_
  · obtain ⟨rfl, ys, rfl, hys, hy⟩ := h
    have hi : i < xs.length := (List.getElem?_eq_some_iff.mp ex).1
    obtain ⟨ρ2, eb, c, hc, st⟩ := step x (List.mem_of_getElem? ex)
    refine ⟨kp, ρ2, eb, fun go k => ?_⟩
    unfold dYes
    dsimp only
    rw [if_pos rfl]
    refine st _ ⟨by rw [List.length_map]; exact small (by omega), k _ _ ⟨rfl, ys ++ [c], by rw [List.map_append]; rfl, by rw [List.length_append, List.length_singleton, hys], fun y hy' => ?_⟩⟩
    rcases List.mem_append.mp hy' with h | h
    · exact hy y h
    · rw [List.mem_singleton.mp h]
      exact hc
  · obtain ⟨rfl, ys, rfl, hys, hy⟩ := h
    exact ⟨kp, fin ys hys hy⟩
def sp_u_law_wide : DSp := fun ds M Q => ∃ z : Str, ds = [.ref 1, .str z] ∧ PS M ∧ LetsOk z ∧ 2 ≤ z.length ∧ ∀ (cs : List (Str × Int)) (M' : Store), PS M' → CorpS cs → (∀ x ∈ cs, In (signs z) x.1) → Q (.tup (cs.map wordD)) M'
theorem sign_of {z : Str} {M : Store} {x : Int} {p n : Nat} (hp : 0 < p) (hp2 : p < 1000) (hn : 0 < n) (hz : n ≤ z.length) (hz2 : z.length ≤ 1000) : ∃ c ∈ signs z, ∀ K : DK, K (.str c) M → fdivR (.int x) (.int (p : Nat)) M fun y M1 => modR y (.int (n : Nat)) M1 fun y M1 => ixR (.str z) y M1 K := by
  obtain ⟨v, ev, hv⟩ := fmod_nat (x := x.fdiv (p : Nat)) (n := n) hn
  have hv2 : v < (signs z).length := by rw [← DL.len_signs]; omega
  have ei : (signs z)[v]? = some (signs z)[v] := List.getElem?_eq_getElem hv2
  refine ⟨(signs z)[v], List.getElem_mem _, fun K k => fdivR_int ⟨by omega, by omega⟩ (modR_int (by omega) ?_)⟩
  rw [ev]
  exact ixR_sign (small' (by omega)) ei k
theorem join_ok {z : Str} {ys : List Str} (hy : ∀ y ∈ ys, y ∈ signs z) : (Txt.join ⟨#[]⟩ ys).length = ys.length ∧ In (signs z) (Txt.join ⟨#[]⟩ ys) ∧ (ys.map (·.length)).sum = ys.length := by
  have one : ∀ y ∈ ys, One y := fun y h => signs_one (hy y h)
  have es := signs_join_one one
  exact ⟨by rw [DL.len_signs, es], fun c hc => by rw [es] at hc; exact hy c hc, ones_sum one⟩
end K

set_option Elab.async false
set_option linter.all false
set_option maxRecDepth 100000
set_option maxHeartbeats 2000000
namespace K
open PySem L2 DL
open PyProof.Rows hiding St signs inR
local macro_rules | `(tactic| walk_at "dl") => `(tactic| dsimp only [dSeq, dAsg, dgName, dVar, dC, dOp, dUn, dCB, dCons, dNil, dTup, dLst, dLstM, dNewK, dNewN, dRet, dRetN, dDrop, dIfS, dNext, dNever, dB, dAnd, dOr, dNot, dAndV, dOrV, dNotV, dIf, dMeth, dSl, dPart, dNoPart, dFor, dIter, dRange1, dRange2, dZip, dEnum, dLc, dLcM, dDc, dSortSet, dCall, dgSeq, dgSub, dgCons, dgNil, dPar, dAug, dBreak, dCont, dYes, endsD, slot, List.set_cons_zero, List.set_cons_succ, itemsD, listR, listRM, tupleR, viewL, viewS, DL.intOf, dwipe, setAll, Shape.bind])
local macro_rules | `(tactic| walk_at "op") => `(tactic| ((first | refine eqR_int ?_ | refine eqR_str ?_ | refine eqR_bl ?_ | refine neR_int ?_ | refine neR_str ?_ | refine ltR_int ?_ | refine leR_int ?_ | refine gtR_int ?_ | refine geR_int ?_ | refine addR_int ?_ | refine addR_str ?_ ?_ | refine iaddR_int ?_ | refine subR_int ?_ | refine isNR_q ?_ | refine notNR_q ?_ | refine lenR_lst ?_ | refine lenR_tup ?_ | refine intCR_int ?_ | refine intCR_bl ?_ | refine absR_int ?_); (try dsimp only)))
/-- [letters[draw(len(letters))] for lap in range(n)] : n letters -/
theorem picksR {z : Str} {n kk : Nat} {L0 rest : Store} {ρ : Env'} {Q : List D → Store → Prop} (hz : 1 ≤ z.length) (hz2 : z.length ≤ 1000) (hL0 : PS L0) (hn : n ≤ 1000) (h0 : slot (dwipe ρ [kk]) 0 = some (.ref 1)) (h1 : slot (dwipe ρ [kk]) 1 = some (.str z)) (h2 : 2 ≤ kk)
    (fin : ∀ (ys : List Str) (L : Store), PS L → ys.length = n → (∀ y ∈ ys, y ∈ signs z) → Q (ys.map D.str) (L ++ rest)) :
    lcGo (.one kk) [kk] (fun _ => True) dYes (dOp ixR (dVar 1) (dCall sp_u_law_draw (dCons (dVar 0) (dCons (dCB lenR (dCons (dVar 1) dNil)) dNil)))) ρ (rangeD 0 n) (L0 ++ rest) [] Q := by
  have sl : ∀ (ρ : Env') (d : D) (j : Nat), j < kk → slot (ρ.set kk (some d)) j = slot ρ j := fun ρ d j hj => by
    induction ρ generalizing j kk with
    | nil => rfl
    | cons x r ih =>
      cases kk with
      | zero => omega
      | succ kk =>
        cases j with
        | zero => rfl
        | succ j =>
          clear ih
          show slot (r.set kk (some d)) j = slot r j
          have gen : ∀ (r : Env') (kk j : Nat), j < kk → slot (r.set kk (some d)) j = slot r j := fun r => by
            induction r with
            | nil => intro kk j _; rfl
            | cons x r ih =>
              intro kk j hj
              cases kk with
              | zero => omega
              | succ kk => cases j with
                | zero => rfl
                | succ j => exact ih kk j (by omega)
          exact gen r kk j (by omega)
  refine lc_inv (fun i M acc => ∃ L, PS L ∧ M = L ++ rest ∧ ∃ ys : List Str, acc = ys.map D.str ∧ ys.length = i ∧ ∀ y ∈ ys, y ∈ signs z) ⟨L0, hL0, rfl, [], rfl, rfl, fun y hy => by cases hy⟩ (fun i x M acc ex h => ?_) fun M acc h => ?_
  · obtain ⟨L, hL, rfl, ys, rfl, hl, hy⟩ := h
    obtain ⟨rfl, hi⟩ := range_item ex
    refine ⟨trivial, _, rfl, fun go k => ?_⟩
    unfold dYes
    dsimp only
    rw [if_pos rfl]
    dsimp only [dOp, dVar, dCall, dCons, dCB, dNil]
    rw [sl _ _ 1 (by omega), sl _ _ 0 (by omega), h1, h0]
    dsimp only
    refine lenR_str (small' (by omega)) ?_
    refine ⟨L, rest, z.length, rfl, rfl, hL, by omega, fun v L' hL' hv => ?_⟩
    have hv2 : v < (signs z).length := by rw [← DL.len_signs]; omega
    have ev : (signs z)[v]? = some (signs z)[v] := List.getElem?_eq_getElem hv2
    refine ixR_sign (small' (by omega)) ev ⟨by rw [List.length_map]; exact small (by omega), k _ _ ⟨L', hL', rfl, ys ++ [(signs z)[v]], by rw [List.map_append]; rfl, by rw [List.length_append, List.length_singleton, hl], fun y hy' => ?_⟩⟩
    rcases List.mem_append.mp hy' with h | h
    · exact hy y h
    · rw [List.mem_singleton.mp h]
      exact List.getElem_mem _
  · obtain ⟨L, hL, rfl, ys, rfl, hl, hy⟩ := h
    rw [range_len] at hl
    exact ⟨trivial, fin ys L hL hl hy⟩
theorem head4 {z : Str} {M : Store} {x : Int} {Q : DK} (ps : List Nat) (n : Nat) (hn : 0 < n) (hz : n ≤ z.length) (hz2 : z.length ≤ 1000) (hps : ∀ p ∈ ps, 0 < p ∧ p < 1000) (hl : ps.length ≤ 100) {a b c d e f : Option D}
    (q : ∀ w : Str, w.length = ps.length → In (signs z) w → Q (.str w) M) :
    lcGo (.one 6) [6] (fun _ => True) dYes (dOp ixR (dVar 1) (dOp modR (dOp fdivR (dVar 3) (dVar 6)) (dC (.int (n : Nat))))) [a, some (.str z), b, some (.int x), c, d, e, f] (ps.map fun p => D.int (p : Nat)) M [] fun acc M2 => joinR (.str ⟨#[]⟩) [.lst acc] M2 Q := by
  refine lc_signs (z := z) trivial (by rw [List.length_map]; omega) (fun x' hx => ?_) fun ys hl' hy => ?_
  · obtain ⟨p, hp, rfl⟩ := List.mem_map.mp hx
    obtain ⟨c', hc, st⟩ := sign_of (M := M) (x := x) (hps p hp).1 (hps p hp).2 hn hz hz2
    refine ⟨_, rfl, c', hc, fun K k => ?_⟩
    walk_at "dl"
    exact st K k
  · obtain ⟨h1, h2, h3⟩ := join_ok hy
    rw [List.length_map] at hl'
    exact joinR_at rfl (by rw [h3]; omega) (q _ (by rw [h1, hl']) h2)
def wideRest : DTS := (dSeq (dAsg (dMeth "str" joinR (dC (.str "")) (dCons (dLc (dRange1 (dCons (dOp subR (dOp subR (dC (.int 80)) (dCB lenR (dCons (dVar 4) dNil))) (dCall sp_u_law_draw (dCons (dVar 0) (dCons (dC (.int 2)) dNil)))) dNil)) (.one 7) dYes (dOp ixR (dVar 1) (dCall sp_u_law_draw (dCons (dVar 0) (dCons (dCB lenR (dCons (dVar 1) dNil)) dNil)))) [7]) dNil)) (dgName 5))
      (dDrop (dMeth "list" appendR (dVar 2) (dCons (dTup (dCons (dOp addR (dVar 4) (dVar 5)) (dCons (dOp subR (dOp powR (dC (.int 10)) (dC (.int 9))) (dCall sp_u_law_draw (dCons (dVar 0) (dCons (dOp addR (dOp powR (dC (.int 10)) (dC (.int 9))) (dC (.int 1))) dNil)))) dNil))) dNil))))
theorem dat_u_law_wide (ds : List D) (M : Store) (Q : DK) (h : sp_u_law_wide ds M Q) : t_u_law_wide sp_u_law_draw (endsD M Q) (startD 8 ds) M := by
  obtain ⟨z, rfl, hM, hz, hz2, q⟩ := h
  obtain ⟨z1, z3, z4⟩ := id hz
  have hM0 := hM
  obtain ⟨gs, a, m, rfl⟩ := hM
  show t_u_law_wide _ (endsD _ Q) [some (.ref 1), some (.str z), none, none, none, none, none, none] _
  unfold t_u_law_wide
  walk_at "dl"
  refine ⟨Nat.zero_le _, by decide, by decide, ?_⟩
  refine for_inv (fun i ρ M' => ∃ (L : Store) (cs : List (Str × Int)) (a b c d e : Option D), ρ = [some (.ref 1), some (.str z), some (.ref 2), a, b, c, d, e] ∧ PS L ∧ M' = L ++ [.lst (cs.map wordD)] ∧ cs.length = i ∧ ∀ x ∈ cs, x.1.length < 1000 ∧ In (signs z) x.1)
    ⟨_, [], none, none, none, none, none, rfl, hM0, rfl, rfl, fun x hx => by cases hx⟩ ?_ ?_
  · rintro i x ρ M' ex ⟨L, cs, a, b, c, d, e, rfl, hL, rfl, hl, hc⟩
    obtain ⟨rfl, hi⟩ := range_item ex
    have hi : i < 40 := hi
    refine ⟨trivial, fun go k => ?_⟩
    have rest : ∀ (hd : Str) (E : DEnds), (∀ ρ' M', go ρ' M' → E.nx ρ' M') → hd.length ≤ 6 → In (signs z) hd → wideRest
        E [some (.ref 1), some (.str z), some (.ref 2), some (.int i), some (.str hd), c, d, e] (L ++ [.lst (cs.map wordD)]) := fun hd E hE h1 h2 => by
      unfold wideRest
      walk_at "dl"
      refine ⟨rfl, ?_⟩
      refine lenR_str (small' (by omega)) (subR_int ?_)
      refine ⟨L, [.lst (cs.map wordD)], 2, rfl, rfl, hL, by decide, fun v L1 hL1 hv => subR_int ?_⟩
      try dsimp only
      refine ⟨by omega, by omega, ?_⟩
      have en : ((80 : Int) - (hd.length : Nat) - (v : Nat)).toNat = 80 - hd.length - v := by omega
      rw [en]
      refine picksR (n := 80 - hd.length - v) (kk := 7) z1 (by omega) hL1 (by omega) rfl rfl (by omega) fun ys L2 hL2 hys hy => ?_
      obtain ⟨j1, j2, j3⟩ := join_ok hy
      refine joinR_at rfl (by rw [j3]; omega) ?_
      generalize Txt.join ⟨#[]⟩ ys = body at j1 j2
      have e2 := hL2.len
      have eM : (L2 ++ [MO.lst (cs.map wordD)])[2]? = some (.lst (cs.map wordD)) := by rw [← e2]; exact get_at0 _ _
      refine ⟨tyM_lst eM, ?_⟩
      refine addR_str (small' (by omega)) ?_
      refine powR_int (by unfold CPow; decide) (powR_int (by unfold CPow; decide) (addR_int ?_))
      refine ⟨L2, [.lst (cs.map wordD)], 1000000001, rfl, rfl, hL2, by decide, fun v2 L3 hL3 hv2 => subR_int ?_⟩
      refine ⟨(by show 2 ≤ sizeLine; decide), ?_⟩
      have e3 := hL3.len
      refine append_cell (ds := cs.map wordD) (by rw [← e3]; exact get_at0 _ _) (by rw [List.length_map]; exact small (by omega)) ?_
      have es : ∀ o : MO, (L3 ++ [MO.lst (cs.map wordD)]).set 2 o = L3 ++ [o] := fun o => by
        rw [← e3]
        exact set_at0 _ _ _
      rw [es]
      refine hE _ _ (k _ _ ⟨L3, cs ++ [(hd ++ body, _)], _, _, _, _, _, rfl, hL3, by rw [List.map_append]; rfl, by rw [List.length_append, List.length_singleton, hl], fun x hx => ?_⟩)
      rcases List.mem_append.mp hx with h | h
      · exact hc x h
      · rw [List.mem_singleton.mp h]
        exact ⟨by rw [len_app]; omega, h2.app j2⟩
    dsimp only [dgName, List.set_cons_zero, List.set_cons_succ]
    show dSeq _ (dSeq _ wideRest) _ _ _
    walk_at "dl"
    refine lenR_str (small' (by omega)) ?_
    refine gtR_int ?_
    try dsimp only
    refine ite_dec (fun h => ?_) (fun h => ?_)
    · refine ⟨rfl, (by show 4 ≤ sizeLine; decide), ?_⟩
      try dsimp only
      refine head4 [64, 16, 4, 1] 4 (by omega) (by omega) (by omega) (by decide) (by decide) fun w hw hi => ?_
      try dsimp only
      refine lenR_str (small' (by omega)) ?_
      refine ltR_int ?_
      try dsimp only
      refine ite_dec (fun h => absurd h (by omega)) (fun h => ?_)
      exact rest w _ (fun ρ' M' h => .inl h) (by rw [hw]; decide) hi
    · refine lenR_str (small' (by omega)) ?_
      refine ltR_int ?_
      try dsimp only
      refine ite_dec (fun h => ?_) (fun h => absurd h (by omega))
      refine ⟨rfl, (by show 6 ≤ sizeLine; decide), ?_⟩
      try dsimp only
      refine head4 [32, 16, 8, 4, 2, 1] 2 (by omega) (by omega) (by omega) (by decide) (by decide) fun w hw hi => ?_
      try dsimp only
      exact rest w _ (fun ρ' M' h => .inl h) (by rw [hw]; decide) hi
  · rintro ρ M' ⟨L, cs, a, b, c, d, e, rfl, hL, rfl, hl, hc⟩
    refine ⟨trivial, ?_⟩
    have hl : cs.length = 40 := hl
    dsimp only [dRet, dCB, dCons, dNil, dVar, slot, tupleR]
    have e2 := hL.len
    rw [viewS_cell (k := 2) (ds := cs.map wordD) (by rw [← e2]; exact get_at0 _ _)]
    refine K.RetOk.pool hM0 hL (.keep ?_) (q cs L hL ⟨⟨by omega, fun x hx => (hc x hx).1⟩, fun x hx => (hc x hx).2.ok z4⟩ fun x hx => (hc x hx).2)
    refine belows_iff.mpr fun d hd => ?_
    obtain ⟨x, _, rfl⟩ := List.mem_map.mp hd
    exact ⟨trivial, trivial, trivial⟩
end K

set_option Elab.async false
set_option linter.all false
set_option maxRecDepth 100000
set_option maxHeartbeats 2000000
namespace K
open PySem L2 DL
open PyProof.Rows hiding St signs inR
local macro_rules | `(tactic| walk_at "dl") => `(tactic| dsimp only [dSeq, dAsg, dgName, dVar, dC, dOp, dUn, dCB, dCons, dNil, dTup, dLst, dLstM, dNewK, dNewN, dRet, dRetN, dDrop, dIfS, dNext, dNever, dB, dAnd, dOr, dNot, dAndV, dOrV, dNotV, dIf, dMeth, dSl, dPart, dNoPart, dFor, dIter, dRange1, dRange2, dZip, dEnum, dLc, dLcM, dDc, dSortSet, dCall, dgSeq, dgSub, dgCons, dgNil, dPar, dAug, dBreak, dCont, dYes, endsD, slot, List.set_cons_zero, List.set_cons_succ, itemsD, listR, listRM, tupleR, viewL, viewS, DL.intOf, dwipe, setAll, Shape.bind])
local macro_rules | `(tactic| walk_at "op") => `(tactic| ((first | refine eqR_int ?_ | refine eqR_str ?_ | refine eqR_bl ?_ | refine neR_int ?_ | refine neR_str ?_ | refine ltR_int ?_ | refine leR_int ?_ | refine gtR_int ?_ | refine geR_int ?_ | refine addR_int ?_ | refine addR_str ?_ ?_ | refine iaddR_int ?_ | refine subR_int ?_ | refine isNR_q ?_ | refine notNR_q ?_ | refine lenR_lst ?_ | refine lenR_tup ?_ | refine intCR_int ?_ | refine intCR_bl ?_ | refine absR_int ?_); (try dsimp only)))
theorem isi_at {x : D} {t c : String} {b : Bool} {M : Store} {Q : DK} (hc : c ∈ plainTy) (e : tyI M x = some t) (hb : isTy t c = b) (q : Q (.bl b) M) : isiR [x, .ty c] M Q := by
  refine ⟨hc, ?_⟩
  rw [e]
  dsimp only
  rw [hb]
  exact q
/-- data that the law compares, n tuples deep -/
def Sd : Nat → D → Prop
  | _, .non => True
  | _, .bl _ => True
  | _, .int _ => True
  | _, .str _ => True
  | n + 1, .tup ds => ds.length ≤ 1000000 ∧ ∀ x ∈ ds, Sd n x
  | _, _ => False
theorem ite_t {A B : Prop} (h : A) : if true = true then A else B := (if_pos rfl).symm ▸ h
theorem ite_f {A B : Prop} (h : B) : if false = true then A else B := (if_neg Bool.false_ne_true).symm ▸ h
theorem ite_nt {A B : Prop} (h : B) : if (!true) = true then A else B := ite_f h
theorem ite_nf {A B : Prop} (h : A) : if (!false) = true then A else B := ite_t h
def sp_u_law_same : Nat → DSp
  | 0 => fun _ _ _ => False
  | n + 1 => fun ds M Q => ∃ d : D, ds = [d, d] ∧ Sd n d ∧ Q (.bl true) M
theorem no_u_law_same (ds : List D) (M : Store) (Q : DK) : ¬ sp_u_law_same 0 ds M Q := id
theorem len_u_law_same (n : Nat) (ds : List D) (M : Store) (Q : DK) (h : sp_u_law_same n ds M Q) : ds.length = 2 := by
  cases n with
  | zero => exact h.elim
  | succ n =>
    obtain ⟨d, rfl, _⟩ := h
    rfl
theorem dat_u_law_same (n : Nat) (ds : List D) (M : Store) (Q : DK) (h : sp_u_law_same (n + 1) ds M Q) : t_u_law_same (sp_u_law_same n) (endsD M Q) (startD 3 ds) M := by
  obtain ⟨d, rfl, hd, q⟩ := h
  show t_u_law_same _ (endsD M Q) [some d, some d, none] M
  unfold t_u_law_same
  walk_at "dl"
  refine isNR_q ?_
  try dsimp only
  cases d with
  | non => exact ite_t (isNR_q (.inl q))
  | bl b =>
    refine ite_f ?_
    refine isi_at (by decide) rfl (b := true) (by decide) (ite_t ?_)
    refine isi_at (by decide) rfl (b := true) (by decide) (eqR_bl (.inl ?_))
    rw [decide_eq_true rfl]
    exact q
  | int i =>
    refine ite_f ?_
    refine isi_at (by decide) rfl (b := false) (by decide) (ite_f ?_)
    refine isi_at (by decide) rfl (b := true) (by decide) (ite_t ?_)
    refine isi_at (by decide) rfl (b := true) (by decide) (isi_at (by decide) rfl (b := false) (by decide) (eqR_int (.inl ?_)))
    rw [decide_eq_true rfl]
    exact q
  | str z =>
    refine ite_f ?_
    refine isi_at (by decide) rfl (b := false) (by decide) (ite_f ?_)
    refine isi_at (by decide) rfl (b := false) (by decide) (ite_f ?_)
    refine isi_at (by decide) rfl (b := true) (by decide) (ite_t ?_)
    refine isi_at (by decide) rfl (b := true) (by decide) (eqR_str (.inl ?_))
    rw [decide_eq_true rfl]
    exact q
  | tup xs =>
    cases n with
    | zero => exact hd.elim
    | succ n =>
    obtain ⟨hl, hx⟩ := hd
    refine ite_f ?_
    refine isi_at (by decide) rfl (b := false) (by decide) (ite_f ?_)
    refine isi_at (by decide) rfl (b := false) (by decide) (ite_f ?_)
    refine isi_at (by decide) rfl (b := false) (by decide) (ite_f ?_)
    refine isi_at (by decide) rfl (b := true) (by decide) (ite_nt ?_)
    refine lenR_tup (lenR_tup (neR_int ?_))
    try dsimp only
    refine ite_ndec (fun h => absurd rfl h) fun _ => ?_
    refine lenR_tup ?_
    try dsimp only
    refine ⟨by omega, by omega, ?_⟩
    rw [Int.toNat_natCast]
    refine for_inv (fun i ρ M' => ∃ a, ρ = [some (.tup xs), some (.tup xs), a] ∧ M' = M) ⟨_, rfl, rfl⟩ ?_ ?_
    · rintro i x ρ M' ex ⟨a, rfl, rfl⟩
      obtain ⟨rfl, hi⟩ := range_item ex
      have ei : xs[i]? = some xs[i] := List.getElem?_eq_getElem hi
      refine ⟨trivial, fun go k => ?_⟩
      walk_at "dl"
      refine ixR_tup ei (ixR_tup ei ?_)
      exact ⟨xs[i], rfl, hx _ (List.getElem_mem _), ite_nt (.inl (k _ _ ⟨_, rfl, rfl⟩))⟩
    · rintro ρ M' ⟨a, rfl, rfl⟩
      exact ⟨trivial, .inl q⟩
  | lst _ => cases n <;> exact hd.elim
  | dk _ => cases n <;> exact hd.elim
  | dn _ => cases n <;> exact hd.elim
  | ref _ => cases n <;> exact hd.elim
  | ty _ => cases n <;> exact hd.elim
theorem same_at {n : Nat} {d e : D} {M : Store} {Q : DK} (he : e = d) (h : Sd n d) (q : Q (.bl true) M) : sp_u_law_same (n + 1) [e, d] M Q := ⟨d, by rw [he], h, q⟩
/-! the log is right -/
theorem train_rules : ∀ (n : Nat) (rcs : Rcs) (tk : Tk), (train n rcs tk).length = (rulesOf (train n rcs tk)).length + (if (rulesOf (train n rcs tk)).length < n then 1 else 0) ∧
    ∀ (i : Nat) (x : Option Pair × F), (train n rcs tk)[i]? = some x → x.1 = (rulesOf (train n rcs tk))[i]?
  | 0, _, _ => ⟨rfl, fun i x h => by simp [train] at h⟩
  | n + 1, rcs, tk => by
    unfold train
    cases ec : chosen (countF tk rcs) with
    | none =>
      refine ⟨by simp [rulesOf], fun i x h => ?_⟩
      cases i with
      | zero =>
        simp at h
        subst h
        simp [rulesOf]
      | succ i => simp at h
    | some p =>
      obtain ⟨h1, h2⟩ := train_rules n (stepRows p rcs) (aPut tk (p.1 ++ p.2) true)
      have e : rulesOf ((some p, countF tk rcs) :: train n (stepRows p rcs) (aPut tk (p.1 ++ p.2) true)) = p :: rulesOf (train n (stepRows p rcs) (aPut tk (p.1 ++ p.2) true)) := by simp [rulesOf]
      dsimp only
      rw [e]
      refine ⟨?_, fun i x h => ?_⟩
      · rw [List.length_cons, List.length_cons, h1]
        by_cases c : (rulesOf (train n (stepRows p rcs) (aPut tk (p.1 ++ p.2) true))).length < n
        · rw [if_pos c, if_pos (by omega)]
        · rw [if_neg c, if_neg (by omega)]
      · cases i with
        | zero =>
          simp at h
          subst h
          rfl
        | succ i =>
          rw [List.getElem?_cons_succ] at h ⊢
          exact h2 i x h
def sp_u_law_log_right : DSp := fun ds M Q => ∃ (z : Str) (cs : List (Str × Int)) (n : Nat), ds = [.str z, .tup (cs.map wordD), .int n, .lst ((rulesOf (trained cs n)).map pD)] ∧ CorpOk cs ∧ n < 100000 ∧ Q (.bl true) M
theorem Sd_pairD (n : Nat) (o : Option Pair) : Sd (n + 1) (pairD o) := by
  cases o with
  | none => trivial
  | some p => exact ⟨(by show 2 ≤ 1000000; decide), fun x hx => by
      rcases List.mem_cons.mp hx with rfl | hx
      · cases n <;> trivial
      · rcases List.mem_singleton.mp hx with rfl
        cases n <;> trivial⟩
theorem dat_u_law_log_right (ds : List D) (M : Store) (Q : DK) (h : sp_u_law_log_right ds M Q) : t_u_law_log_right sp_train_log (sp_u_law_same 4) (endsD M Q) (startD 7 ds) M := by
  obtain ⟨z, cs, n, rfl, ok, hn, q⟩ := h
  obtain ⟨h1, h2⟩ := train_rules n (rows0 cs) []
  have hl := trained_len cs n
  have hr := rulesOf_len (trained cs n)
  change (trained cs n).length = (rulesOf (trained cs n)).length + (if (rulesOf (trained cs n)).length < n then 1 else 0) at h1
  change ∀ (i : Nat) (x : Option Pair × F), (trained cs n)[i]? = some x → x.1 = (rulesOf (trained cs n))[i]? at h2
  show t_u_law_log_right _ _ (endsD M Q) [some (.str z), some (.tup (cs.map wordD)), some (.int n), some (.lst ((rulesOf (trained cs n)).map pD)), none, none, none] M
  unfold t_u_law_log_right
  walk_at "dl"
  refine ⟨z, cs, n, rfl, ok, hn, ?_⟩
  generalize trained cs n = tr at *
  refine isi_at (by decide) rfl (b := true) (by decide) (ite_nt ?_)
  refine lenR_lst (ltR_int ?_)
  try dsimp only
  refine lenR_tup (lenR_lst (intCR_bl (addR_int (neR_int ?_))))
  try dsimp only
  rw [List.length_map, List.length_map]
  have e1 : ((tr.length : Nat) : Int) = ((rulesOf tr).length : Nat) + (if decide (((rulesOf tr).length : Int) < (n : Int)) = true then 1 else 0) := by
    rw [h1]
    by_cases c : (rulesOf tr).length < n
    · rw [if_pos c, if_pos (decide_eq_true (by omega))]; omega
    · rw [if_neg c, if_neg (by simpa using c)]; omega
  refine ite_ndec (fun h => absurd e1 h) fun _ => ?_
  refine lenR_tup ?_
  try dsimp only
  rw [List.length_map]
  refine ⟨by omega, by omega, ?_⟩
  rw [Int.toNat_natCast]
  refine for_inv (fun i ρ M' => ∃ a b, ρ = [some (.str z), some (.tup (cs.map wordD)), some (.int n), some (.lst ((rulesOf tr).map pD)), some (.tup (tr.map logD)), a, b] ∧ M' = M) ⟨_, _, rfl, rfl⟩ ?_ ?_
  · rintro i x ρ M' ex ⟨a, b, rfl, rfl⟩
    obtain ⟨rfl, hi⟩ := range_item ex
    obtain ⟨x, ei⟩ : ∃ x, tr[i]? = some x := ⟨tr[i], List.getElem?_eq_getElem hi⟩
    have e2 := h2 i x ei
    refine ⟨trivial, fun go k => ?_⟩
    have ix : ∀ (K : DK), K (logD x) M' → ixR (.tup (tr.map logD)) (.int ((i : Nat) : Int)) M' K := fun K h => ixR_tupm ei h
    walk_at "dl"
    refine ix _ (isi_at (by decide) (show tyI M' (logD x) = some "tuple" from rfl) (b := true) (by decide) (ite_nt ?_))
    refine ix _ (lenR_tup (neR_int ?_))
    try dsimp only
    refine ite_ndec (fun h => absurd rfl h) fun _ => ?_
    refine ix _ (ixR_tup (n := 0) rfl ?_)
    refine lenR_lst (ltR_int ?_)
    try dsimp only
    rw [List.length_map]
    refine ite_dec (fun h => ?_) (fun h => ?_)
    · have hi2 : i < (rulesOf tr).length := by omega
      have er : (rulesOf tr)[i]? = some (rulesOf tr)[i] := List.getElem?_eq_getElem hi2
      rw [er] at e2
      refine ixR_lst er ?_
      refine same_at (n := 3) (by rw [e2]; rfl) (Sd_pairD 2 (some _)) (ite_nt (.inl (k _ _ ⟨_, _, rfl, rfl⟩)))
    · have er : (rulesOf tr)[i]? = none := List.getElem?_eq_none (by omega)
      rw [er] at e2
      refine same_at (n := 3) (by rw [e2]; rfl) (show Sd 3 .non from trivial) (ite_nt (.inl (k _ _ ⟨_, _, rfl, rfl⟩)))
  · rintro ρ M' ⟨a, b, rfl, rfl⟩
    exact ⟨trivial, .inl q⟩
end K

set_option Elab.async false
set_option linter.all false
set_option maxRecDepth 100000
set_option maxHeartbeats 2000000
namespace K
open PySem L2 DL
open PyProof.Rows hiding St signs inR
local macro_rules | `(tactic| walk_at "dl") => `(tactic| dsimp only [dSeq, dAsg, dgName, dVar, dC, dOp, dUn, dCB, dCons, dNil, dTup, dLst, dLstM, dNewK, dNewN, dRet, dRetN, dDrop, dIfS, dNext, dNever, dB, dAnd, dOr, dNot, dAndV, dOrV, dNotV, dIf, dMeth, dSl, dPart, dNoPart, dFor, dIter, dRange1, dRange2, dZip, dEnum, dLc, dLcM, dDc, dSortSet, dCall, dgSeq, dgSub, dgCons, dgNil, dPar, dAug, dBreak, dCont, dYes, endsD, slot, List.set_cons_zero, List.set_cons_succ, itemsD, listR, listRM, tupleR, viewL, viewS, DL.intOf, dwipe, setAll, Shape.bind])
local macro_rules | `(tactic| walk_at "op") => `(tactic| ((first | refine eqR_int ?_ | refine eqR_str ?_ | refine eqR_bl ?_ | refine neR_int ?_ | refine neR_str ?_ | refine ltR_int ?_ | refine leR_int ?_ | refine gtR_int ?_ | refine geR_int ?_ | refine addR_int ?_ | refine addR_str ?_ ?_ | refine iaddR_int ?_ | refine subR_int ?_ | refine isNR_q ?_ | refine notNR_q ?_ | refine lenR_lst ?_ | refine lenR_tup ?_ | refine intCR_int ?_ | refine intCR_bl ?_ | refine absR_int ?_); (try dsimp only)))
def HoldsIn (z name : Str) (cs : List (Str × Int)) (n : Nat) : Prop := CorpS cs ∧ (∀ x ∈ cs, In (signs z) x.1) ∧ z.length < 1000 ∧ n < 900
def sp_u_law_holds : DSp := fun ds M Q => ∃ (z name : Str) (cs : List (Str × Int)) (n : Nat), ds = [.str z, .str name, .tup (cs.map wordD), .int n] ∧ HoldsIn z name cs n ∧ Q (.bl true) M
theorem finalRows_eq : ∀ (rs : List Pair) (rcs : Rcs), finalRows rs rcs = rcs.map fun x => (finalRow rs x.1, x.2)
  | [], rcs => by simp [finalRows, finalRow]
  | p :: rs, rcs => by
    show finalRows rs (stepRows p rcs) = _
    rw [finalRows_eq rs]
    unfold stepRows
    rw [List.map_map]
    rfl
theorem rules_len2 {p : Pair} : ∀ {n : Nat} {rcs : Rcs} {tk : Tk}, (∀ y ∈ rcs, RowT y.1) → p ∈ rulesOf (train n rcs tk) → p.1.length + p.2.length < 1000
  | 0, _, _, _, h => by simp [train, rulesOf] at h
  | n + 1, rcs, tk, ok, h => by
    unfold train at h
    cases ec : chosen (countF tk rcs) with
    | none =>
      rw [ec] at h
      simp [rulesOf] at h
    | some q =>
      rw [ec] at h
      have e : rulesOf ((some q, countF tk rcs) :: train n (stepRows q rcs) (aPut tk (q.1 ++ q.2) true)) = q :: rulesOf (train n (stepRows q rcs) (aPut tk (q.1 ++ q.2) true)) := by simp [rulesOf]
      dsimp only at h
      rw [e] at h
      rcases List.mem_cons.mp h with z | z
      · rw [z]
        exact chosen_len ec ok
      · exact rules_len2 (stepRows_ok ok) z
theorem Sd_joins (z name : Str) (rs : List Pair) (hl : rs.length ≤ 1000000) : Sd 3 (joinsD z name rs) := by
  refine ⟨(by show 4 ≤ 1000000; decide), fun x hx => ?_⟩
  rcases List.mem_cons.mp hx with rfl | hx
  · trivial
  rcases List.mem_cons.mp hx with rfl | hx
  · trivial
  rcases List.mem_cons.mp hx with rfl | hx
  · trivial
  rcases List.mem_singleton.mp hx with rfl
  refine ⟨by rw [List.length_map]; exact hl, fun x hx => ?_⟩
  obtain ⟨p, _, rfl⟩ := List.mem_map.mp hx
  refine ⟨(by show 3 ≤ 1000000; decide), fun x hx => ?_⟩
  rcases List.mem_cons.mp hx with rfl | hx
  · trivial
  rcases List.mem_cons.mp hx with rfl | hx
  · trivial
  rcases List.mem_singleton.mp hx with rfl
  trivial
def cutD' (name : Str) (row : List Str) : D := .tup (row.map fun p => .tup [.str p, .str name])
theorem Sd_cut (name : Str) (row : List Str) (hl : row.length ≤ 1000000) : Sd 3 (cutD' name row) := by
  refine ⟨by rw [List.length_map]; exact hl, fun x hx => ?_⟩
  obtain ⟨p, _, rfl⟩ := List.mem_map.mp hx
  refine ⟨(by show 2 ≤ 1000000; decide), fun x hx => ?_⟩
  rcases List.mem_cons.mp hx with rfl | hx
  · trivial
  rcases List.mem_singleton.mp hx with rfl
  trivial
theorem min2R_int {i j : Int} {M : Store} {Q : DK} (q : Q (.int (if j < i then j else i)) M) : min2R [.int i, .int j] M Q := q
theorem dat_u_law_holds (ds : List D) (M : Store) (Q : DK) (h : sp_u_law_holds ds M Q) : t_u_law_holds sp_u_law_trained (sp_u_law_same 4) sp_train_joins sp_u_law_log_right sp_join_cut (endsD M Q) (startD 13 ds) M := by
  obtain ⟨z, name, cs, n, rfl, ⟨ok, hin, hz, hn⟩, q⟩ := h
  have hl := trained_len cs n
  have hr := rulesOf_len (trained cs n)
  have hp2 : ∀ p ∈ rulesOf (trained cs n), p.1.length + p.2.length < 1000 := fun p hp => rules_len2 (rows0_ok ok.1) hp
  show t_u_law_holds _ _ _ _ _ (endsD M Q) [some (.str z), some (.str name), some (.tup (cs.map wordD)), some (.int n), none, none, none, none, none, none, none, none, none] M
  unfold t_u_law_holds
  walk_at "dl"
  refine ⟨cs, n, rfl, ok, by omega, rfl, rfl, ?_⟩
  try dsimp only
  refine lc_map (sh := .many [9, 10]) (by rfl) pD (ruleD name) (rulesOf (trained cs n)) (small' (by omega)) (fun x hx => ⟨_, rfl, fun K k => ⟨(by show 3 ≤ sizeLine; decide), k⟩⟩) ?_
  refine ⟨(by show 4 ≤ sizeLine; decide), ?_⟩
  refine ⟨z, name, cs, n, rfl, ok.1, by omega, ?_⟩
  refine same_at (n := 3) rfl (Sd_joins z name _ (by omega)) (ite_nt ?_)
  refine ⟨z, cs, n, rfl, ok.1, by omega, ite_nt ?_⟩
  refine lc_filter (sh := .one 11) (by rfl) pD (fun p => if 8 < (p.1 ++ p.2).length then some (pD p) else none) (rulesOf (trained cs n)) (small' (by omega)) (fun x hx => ⟨_, rfl, fun K k => ?_⟩) (fun x hx d e ρ2 eb K k => ?_) ?_
  · walk_at "dl"
    have := hp2 x hx
    refine ixR_tup (n := 0) rfl (ixR_tup (n := 1) rfl (addR_str (small' (by omega)) (lenR_str (small' (by rw [len_app]; omega)) (gtR_int ?_))))
    try dsimp only
    by_cases c : 8 < (x.1 ++ x.2).length
    · rw [if_pos c] at k
      rw [decide_eq_true (show (8 : Int) < ((x.1 ++ x.2).length : Nat) by omega)]
      exact k
    · rw [if_neg c] at k
      rw [decide_eq_false (show ¬ (8 : Int) < ((x.1 ++ x.2).length : Nat) by omega)]
      exact k
  · have eb' := Option.some.inj eb
    subst eb'
    split at e
    · cases e
      exact k
    · cases e
  refine lenR_lst (eqR_int ?_)
  try dsimp only
  refine ite_dec (fun h => ?_) (fun h => .inl q)
  refine lenR_tup (min2R_int ?_)
  try dsimp only
  rw [List.length_map]
  have hc := ok.1.1
  have em : ∃ k : Nat, (if (8 : Int) < (cs.length : Nat) then (8 : Int) else (cs.length : Nat)) = (k : Nat) ∧ k ≤ cs.length := by
    split
    · exact ⟨8, rfl, by omega⟩
    · exact ⟨cs.length, rfl, Nat.le_refl _⟩
  obtain ⟨kk, ek, hkk⟩ := em
  rw [ek]
  refine ⟨by omega, by omega, ?_⟩
  rw [Int.toNat_natCast]
  refine for_inv (fun i ρ M' => ∃ a b c d e f, ρ = [some (.str z), some (.str name), some (.tup (cs.map wordD)), some (.int n), some (.lst ((rulesOf (trained cs n)).map pD)), some (.lst ((finalRows (rulesOf (trained cs n)) (rows0 cs)).map fun x => rowD x.1)), some (joinsD z name (rulesOf (trained cs n))), a, b, c, d, e, f] ∧ M' = M) ⟨_, _, _, _, _, _, rfl, rfl⟩ ?_ ?_
  · rintro i x ρ M' ex ⟨a, b, c, d, e, f, rfl, rfl⟩
    obtain ⟨rfl, hi⟩ := range_item ex
    have hi2 : i < cs.length := by omega
    have ec : cs[i]? = some cs[i] := List.getElem?_eq_getElem hi2
    generalize cs[i] = w at ec
    have hw := List.mem_of_getElem? ec
    have hwl := ok.1.2 w hw
    have er : (finalRows (rulesOf (trained cs n)) (rows0 cs))[i]? = some (finalRow (rulesOf (trained cs n)) (signs w.1), w.2) := by
      rw [finalRows_eq, List.getElem?_map]
      unfold rows0
      rw [List.getElem?_map, ec]
      rfl
    have hrow := finalRow_len (rulesOf (trained cs n)) (signs w.1)
    rw [← DL.len_signs] at hrow
    refine ⟨trivial, fun go k => ?_⟩
    walk_at "dl"
    refine ixR_lst er ?_
    unfold rowD
    try dsimp only
    refine lc_map (sh := .one 12) (by rfl) D.str (fun p => .tup [.str p, .str name]) (finalRow (rulesOf (trained cs n)) (signs w.1)) (small' (by omega)) (fun x hx => ⟨_, rfl, fun K k => ⟨(by show 2 ≤ sizeLine; decide), k⟩⟩) ?_
    refine ixR_tupm ec (ixR_tup (n := 0) rfl ?_)
    refine ⟨z, name, w.1, rulesOf (trained cs n), rfl, hz, hwl, by omega, hp2, hin w hw, ?_⟩
    refine same_at (n := 3) rfl (Sd_cut name _ (by omega)) (ite_nt (.inl (k _ _ ⟨_, _, _, _, _, _, rfl, rfl⟩)))
  · rintro ρ M' ⟨a, b, c, d, e, f, rfl, rfl⟩
    exact ⟨trivial, .inl q⟩
end K

set_option Elab.async false
set_option linter.all false
set_option maxRecDepth 100000
set_option maxHeartbeats 2000000
namespace K
open PySem L2 DL
open PyProof.Rows hiding St signs inR
local macro_rules | `(tactic| walk_at "dl") => `(tactic| dsimp only [dSeq, dAsg, dgName, dVar, dC, dOp, dUn, dCB, dCons, dNil, dTup, dLst, dLstM, dNewK, dNewN, dRet, dRetN, dDrop, dIfS, dNext, dNever, dB, dAnd, dOr, dNot, dAndV, dOrV, dNotV, dIf, dMeth, dSl, dPart, dNoPart, dFor, dIter, dRange1, dRange2, dZip, dEnum, dLc, dLcM, dDc, dSortSet, dCall, dgSeq, dgSub, dgCons, dgNil, dPar, dAug, dBreak, dCont, dYes, endsD, slot, List.set_cons_zero, List.set_cons_succ, itemsD, listR, listRM, tupleR, viewL, viewS, DL.intOf, dwipe, setAll, Shape.bind])
local macro_rules | `(tactic| walk_at "op") => `(tactic| ((first | refine eqR_int ?_ | refine eqR_str ?_ | refine eqR_bl ?_ | refine neR_int ?_ | refine neR_str ?_ | refine ltR_int ?_ | refine leR_int ?_ | refine gtR_int ?_ | refine geR_int ?_ | refine addR_int ?_ | refine addR_str ?_ ?_ | refine iaddR_int ?_ | refine subR_int ?_ | refine isNR_q ?_ | refine notNR_q ?_ | refine lenR_lst ?_ | refine lenR_tup ?_ | refine intCR_int ?_ | refine intCR_bl ?_ | refine absR_int ?_); (try dsimp only)))
/-! the given corpus of two letters -/
def S (l : List Nat) : Str := ⟨l.toArray⟩
theorem S_app (l m : List Nat) : S l ++ S m = S (l ++ m) := by
  show (⟨l.toArray ++ m.toArray⟩ : Str) = ⟨(l ++ m).toArray⟩
  simp
theorem S_inj {l m : List Nat} : S l = S m ↔ l = m := by
  constructor
  · intro h
    have := congrArg (fun s : Str => s.cps.toList) h
    simpa [S] using this
  · intro h; rw [h]
theorem leS_S (l m : List Nat) : leS (S l) (S m) = decide (l ≤ m) := by
  rw [leS_eq]
  exact decide_eq_decide.mpr (by simp [S])
theorem lt_str (a b : Str) : (!PySem.W.dataLt (.str b) (.str a)) = leS a b := rfl
theorem leP_eq (p q : Pair) : PySem.W.dataLe false encP p q = if q.1 = p.1 then (if q.2 = p.2 then true else leS p.2 q.2) else leS p.1 q.1 := by
  rw [PySem.W.dataLe_eq]
  show (!PySem.W.dataLt (.tuple [.str q.1, .str q.2]) (.tuple [.str p.1, .str p.2])) = _
  rw [PySem.W.dataLt_pair rfl rfl]
  have e1 : ∀ a b : Str, PyData.eqv (.str a) (.str b) = decide (a = b) := fun a b => by
    show (a == b) = _
    by_cases h : a = b <;> simp [h]
  rw [e1, e1]
  by_cases h1 : q.1 = p.1
  · rw [if_pos (decide_eq_true h1), if_pos h1]
    by_cases h2 : q.2 = p.2
    · rw [if_pos (decide_eq_true h2), if_pos h2]
      rfl
    · rw [if_neg (by simpa using h2), if_neg h2]
      exact lt_str _ _
  · rw [if_neg (by simpa using h1), if_neg h1]
    exact lt_str _ _
theorem train_some {n : Nat} {rcs : Rcs} {tk : Tk} {p : Pair} {f : F} (ef : countF tk rcs = f) (h : chosen f = some p) : rulesOf (train (n + 1) rcs tk) = p :: rulesOf (train n (stepRows p rcs) (aPut tk (p.1 ++ p.2) true)) := by
  subst ef
  show rulesOf ((chosen (countF tk rcs), countF tk rcs) :: match chosen (countF tk rcs) with | none => [] | some p => train n (stepRows p rcs) (aPut tk (p.1 ++ p.2) true)) = _
  rw [h]
  simp [rulesOf]
theorem train_none {n : Nat} {rcs : Rcs} {tk : Tk} (h : chosen (countF tk rcs) = none) : rulesOf (train (n + 1) rcs tk) = [] := by
  unfold train
  rw [h]
  simp [rulesOf]
theorem chosen_sorted {f : F} (h : (f.map (·.1)).Pairwise fun p q => PySem.W.dataLe false encP p q = true) : chosen f = (pickF f (f.map (·.1))).1 := by
  unfold chosen sortP
  rw [List.mergeSort_of_pairwise h]
theorem ends_rules {x y : Nat} (h : x < y) : rulesOf (train 9 [([S [x], S [x]], 1), ([S [x], S [y]], 1), ([S [y], S [y], S [y]], 1)] []) = [(S [y], S [y]), (S [x], S [x]), (S [x], S [y]), (S [y, y], S [y])] := by
  have hn : x ≠ y := by omega
  have hm : y ≠ x := by omega
  have le1 : ([x] : List Nat) ≤ [y] := by
    rw [List.cons_le_cons_iff]
    exact .inl h
  have le2 : ([x] : List Nat) ≤ [y, y] := by
    rw [List.cons_le_cons_iff]
    exact .inl h
  rw [train_some (f := [((S [x], S [x]), 1), ((S [x], S [y]), 1), ((S [y], S [y]), 2)]) (p := (S [y], S [y]))]
  rotate_left
  · simp [countF, addRow, pairsOf, bump, aGet, aPut, S_app, S_inj, hn, hm]
  · rw [chosen_sorted]
    · simp [pickF, pickStep, aGet, S_inj, hn, hm]
    · simp [leP_eq, leS_S, S_inj, hn, hm, le1]
  rw [show stepRows (S [y], S [y]) [([S [x], S [x]], 1), ([S [x], S [y]], 1), ([S [y], S [y], S [y]], 1)] = [([S [x], S [x]], 1), ([S [x], S [y]], 1), ([S [y, y], S [y]], 1)] from by simp [stepRows, joinedOnce, S_app, S_inj, hn, hm]]
  rw [show aPut ([] : Tk) (S [y] ++ S [y]) true = [(S [y, y], true)] from by simp [aPut, aGet, S_app]]
  rw [train_some (f := [((S [x], S [x]), 1), ((S [x], S [y]), 1), ((S [y, y], S [y]), 1)]) (p := (S [x], S [x]))]
  rotate_left
  · simp [countF, addRow, pairsOf, bump, aGet, aPut, S_app, S_inj, hn, hm]
  · rw [chosen_sorted]
    · simp [pickF, pickStep, aGet, S_inj, hn, hm]
    · simp [leP_eq, leS_S, S_inj, hn, hm, le1, le2]
  rw [show stepRows (S [x], S [x]) [([S [x], S [x]], 1), ([S [x], S [y]], 1), ([S [y, y], S [y]], 1)] = [([S [x, x]], 1), ([S [x], S [y]], 1), ([S [y, y], S [y]], 1)] from by simp [stepRows, joinedOnce, S_app, S_inj, hn, hm]]
  rw [show aPut ([(S [y, y], true)] : Tk) (S [x] ++ S [x]) true = [(S [y, y], true), (S [x, x], true)] from by simp [aPut, aGet, S_app, S_inj, hn, hm]]
  rw [train_some (f := [((S [x], S [y]), 1), ((S [y, y], S [y]), 1)]) (p := (S [x], S [y]))]
  rotate_left
  · simp [countF, addRow, pairsOf, bump, aGet, aPut, S_app, S_inj, hn, hm]
  · rw [chosen_sorted]
    · simp [pickF, pickStep, aGet, S_inj, hn, hm]
    · simp [leP_eq, leS_S, S_inj, hn, hm, le1, le2]
  rw [show stepRows (S [x], S [y]) [([S [x, x]], 1), ([S [x], S [y]], 1), ([S [y, y], S [y]], 1)] = [([S [x, x]], 1), ([S [x, y]], 1), ([S [y, y], S [y]], 1)] from by simp [stepRows, joinedOnce, S_app, S_inj, hn, hm]]
  rw [show aPut ([(S [y, y], true), (S [x, x], true)] : Tk) (S [x] ++ S [y]) true = [(S [y, y], true), (S [x, x], true), (S [x, y], true)] from by simp [aPut, aGet, S_app, S_inj, hn, hm]]
  rw [train_some (f := [((S [y, y], S [y]), 1)]) (p := (S [y, y], S [y]))]
  rotate_left
  · simp [countF, addRow, pairsOf, bump, aGet, aPut, S_app, S_inj, hn, hm]
  · rw [chosen_sorted]
    · simp [pickF, pickStep, aGet, S_inj, hn, hm]
    · simp
  rw [show stepRows (S [y, y], S [y]) [([S [x, x]], 1), ([S [x, y]], 1), ([S [y, y], S [y]], 1)] = [([S [x, x]], 1), ([S [x, y]], 1), ([S [y, y, y]], 1)] from by simp [stepRows, joinedOnce, S_app, S_inj, hn, hm]]
  rw [train_none]
  have e : countF (aPut ([(S [y, y], true), (S [x, x], true), (S [x, y], true)] : Tk) (S [y, y] ++ S [y]) true) [([S [x, x]], 1), ([S [x, y]], 1), ([S [y, y, y]], 1)] = [] := by simp [countF, addRow, pairsOf]
  rw [e, chosen_sorted (by simp)]
  rfl
end K

set_option Elab.async false
set_option linter.all false
set_option maxRecDepth 100000
set_option maxHeartbeats 2000000
namespace K
open PySem L2 DL
open PyProof.Rows hiding St signs inR
local macro_rules | `(tactic| walk_at "dl") => `(tactic| dsimp only [dSeq, dAsg, dgName, dVar, dC, dOp, dUn, dCB, dCons, dNil, dTup, dLst, dLstM, dNewK, dNewN, dRet, dRetN, dDrop, dIfS, dNext, dNever, dB, dAnd, dOr, dNot, dAndV, dOrV, dNotV, dIf, dMeth, dSl, dPart, dNoPart, dFor, dIter, dRange1, dRange2, dZip, dEnum, dLc, dLcM, dDc, dSortSet, dCall, dgSeq, dgSub, dgCons, dgNil, dPar, dAug, dBreak, dCont, dYes, endsD, slot, List.set_cons_zero, List.set_cons_succ, itemsD, listR, listRM, tupleR, viewL, viewS, DL.intOf, dwipe, setAll, Shape.bind])
local macro_rules | `(tactic| walk_at "op") => `(tactic| ((first | refine eqR_int ?_ | refine eqR_str ?_ | refine eqR_bl ?_ | refine neR_int ?_ | refine neR_str ?_ | refine ltR_int ?_ | refine leR_int ?_ | refine gtR_int ?_ | refine geR_int ?_ | refine addR_int ?_ | refine addR_str ?_ ?_ | refine iaddR_int ?_ | refine subR_int ?_ | refine isNR_q ?_ | refine notNR_q ?_ | refine lenR_lst ?_ | refine lenR_tup ?_ | refine intCR_int ?_ | refine intCR_bl ?_ | refine absR_int ?_); (try dsimp only)))
def sp_law : DSp := fun ds M Q => ∃ ns : List Int, ds = [.lst (ns.map D.int)] ∧ ns.length ≤ 63 ∧ M = [] ∧ ∀ M', Q (.bl true) M'
theorem one_S {c : Str} (h : One c) : ∃ n, c = S [n] := h
theorem LetOk.lets {z : Str} {n : Nat} (h : LetOk z n) (h1 : 1 ≤ n) (h2 : n ≤ 26) : LetsOk z := ⟨by rw [h.len]; exact h1, by rw [h.len]; exact h2, h.2.2.2⟩
theorem nat_item {l : List Nat} {v : Nat} {M : Store} {Q : DK} (hv : v < l.length) (q : ∀ n ∈ l, Q (.int (n : Nat)) M) : ixR (.lst (l.map fun n => D.int (n : Nat))) (.int (v : Nat)) M Q :=
  ixR_lst (List.getElem?_eq_getElem hv) (q _ (List.getElem_mem _))
/-- two letters -/
theorem two_of {z : Str} (h : LetOk z 2) : ∃ x y, x < y ∧ z = S [x, y] := by
  obtain ⟨h1, h2, h3, h4⟩ := h
  match e : signs z, h1 with
  | [a, b], _ =>
    rw [e] at h2 h3
    obtain ⟨x, ex⟩ := one_S (signs_one (z := z) (c := a) (by rw [e]; simp))
    obtain ⟨y, ey⟩ := one_S (signs_one (z := z) (c := b) (by rw [e]; simp))
    subst ex ey
    refine ⟨x, y, ?_, str_of_signs (e.trans rfl)⟩
    have hle : leS (S [x]) (S [y]) = true := by simpa using h3
    have hne : S [x] ≠ S [y] := by simpa using h2
    rw [leS_S, decide_eq_true_eq, List.cons_le_cons_iff] at hle
    rcases hle with h | ⟨h, _⟩
    · exact h
    · exact absurd (by rw [h]) hne
theorem signs_S (l : List Nat) : signs (S l) = l.map fun n => S [n] := by
  unfold signs S
  simp
theorem S_len (l : List Nat) : (S l).length = l.length := by
  show l.toArray.size = _
  simp
theorem mul_S (x n : Nat) (h : 1 ≤ n) : Txt.mul (S [x]) (n : Nat) = S (List.replicate n x) := by
  unfold Txt.mul
  rw [if_neg (by omega)]
  by_cases h1 : n = 1
  · subst h1
    rfl
  · have hc : ¬ ((((n : Nat) : Int) == 1 || (S [x]).length == 0) = true) := by
      rw [S_len]
      simp
      omega
    rw [if_neg hc]
    refine DL.str_of_list ?_
    show ((List.replicate ((n : Nat) : Int).toNat (S [x]).cps).foldl (· ++ ·) (#[] : Array Nat)).toList = _
    rw [foldl_app_toList, Int.toNat_natCast]
    simp [S]
theorem ok_S {l : List Nat} (h : ∀ n ∈ l, PyData.strOk (S [n]) = true) : PyData.strOk (S l) = true := by
  rw [strOk_signs, signs_S]
  intro c hc
  obtain ⟨n, hn, rfl⟩ := List.mem_map.mp hc
  exact h n hn
theorem in_S {l m : List Nat} (h : ∀ n ∈ l, n ∈ m) : In (signs (S m)) (S l) := fun c hc => by
  rw [signs_S] at hc ⊢
  obtain ⟨n, hn, rfl⟩ := List.mem_map.mp hc
  exact List.mem_map.mpr ⟨n, h n hn, rfl⟩
theorem py_pairs (M : Store) : ∀ rs : List Pair, PyOfs M (rs.map pD) (rs.map encP)
  | [] => .nil
  | p :: rs => .cons (.tup (.cons (.str _) (.cons (.str _) .nil))) (py_pairs M rs)
theorem eqv_pairs : ∀ rs : List Pair, PyData.eqvAll (rs.map encP) (rs.map encP) = true
  | [] => rfl
  | p :: rs => by
    show (PyData.eqv (encP p) (encP p) && PyData.eqvAll (rs.map encP) (rs.map encP)) = true
    rw [eqv_P, eqv_pairs rs]
    simp
/-- a list of pairs against itself -/
theorem neR_self {rs : List Pair} {M : Store} {Q : DK} (hs : SeqAt.shaped (.list (rs.map encP)) = true) (q : Q (.bl false) M) : neR (.lst (rs.map pD)) (.lst (rs.map pD)) M Q := by
  refine ⟨.list (rs.map encP), .list (rs.map encP), .lst (py_pairs M rs), .lst (py_pairs M rs), hs, hs, ?_⟩
  have e : PyData.eqv (.list (rs.map encP)) (.list (rs.map encP)) = true := eqv_pairs rs
  rw [e]
  exact q
theorem shaped4 {a b c d : Pair} (h : ∀ p ∈ [a, b, c, d], PyData.strOk p.1 = true ∧ PyData.strOk p.2 = true) : SeqAt.shaped (.list ([a, b, c, d].map encP)) = true := by
  obtain ⟨a1, a2⟩ := h a (by simp)
  obtain ⟨b1, b2⟩ := h b (by simp)
  obtain ⟨c1, c2⟩ := h c (by simp)
  obtain ⟨d1, d2⟩ := h d (by simp)
  unfold SeqAt.shaped
  rw [Bool.and_eq_true]
  refine ⟨?_, of_decide_eq_true (by rfl) |> decide_eq_true⟩
  simp [PyData.canLay0, PyData.canLayAll0, encP, a1, a2, b1, b2, c1, c2, d1, d2]
def endsOf (x y : Nat) : List (Str × Int) := [(S [x, x], 1), (S [x, y], 1), (S [y, y, y], 1)]
theorem ends_trained {x y : Nat} (h : x < y) : rulesOf (trained (endsOf x y) 9) = [(S [y], S [y]), (S [x], S [x]), (S [x], S [y]), (S [y, y], S [y])] := by
  have e : rows0 (endsOf x y) = [([S [x], S [x]], 1), ([S [x], S [y]], 1), ([S [y], S [y], S [y]], 1)] := by
    simp [rows0, endsOf, signs_S]
  unfold trained
  rw [e]
  exact ends_rules h
theorem corp3 {x y : Nat} (ox : PyData.strOk (S [x]) = true) (oy : PyData.strOk (S [y]) = true) (c1 c2 c3 : Int) : CorpS [(S [x, x], c1), (S [x, y], c2), (S [y, y, y], c3)] ∧ ∀ w ∈ [(S [x, x], c1), (S [x, y], c2), (S [y, y, y], c3)], In (signs (S [x, y])) w.1 := by
  refine ⟨⟨⟨by simp, fun w hw => ?_⟩, fun w hw => ?_⟩, fun w hw => ?_⟩
  · simp only [List.mem_cons, List.not_mem_nil, or_false] at hw
    rcases hw with rfl | rfl | rfl <;> (show (S _).length < 1000; rw [S_len]; simp)
  · simp only [List.mem_cons, List.not_mem_nil, or_false] at hw
    rcases hw with rfl | rfl | rfl <;> (refine ok_S fun n hn => ?_; simp at hn; rcases hn with rfl | rfl <;> assumption)
  · simp only [List.mem_cons, List.not_mem_nil, or_false] at hw
    rcases hw with rfl | rfl | rfl <;> (refine in_S fun n hn => ?_; simp at hn ⊢; omega)
theorem dat_law (ds : List D) (M : Store) (Q : DK) (h : sp_law ds M Q) : t_law sp_u_law_pool sp_u_law_letters sp_u_law_draw sp_u_law_corpus sp_u_law_holds sp_u_law_trained sp_u_law_wide (endsD M Q) (startD 13 ds) M := by
  obtain ⟨ns, rfl, hn, rfl, q⟩ := h
  show t_law _ _ _ _ _ _ _ (endsD [] Q) [some (.lst (ns.map D.int)), none, none, none, none, none, none, none, none, none, none, none, none] []
  unfold t_law
  walk_at "dl"
  refine ⟨ns, rfl, rfl, hn, fun M1 hM1 => ?_⟩
  refine ⟨(by show 6 ≤ sizeLine; decide), ?_⟩
  refine draw_at (many := 6) hM1 (by omega) fun v L1 hL1 hv => ?_
  refine nat_item (l := [1, 2, 2, 3, 3, 6]) (by simpa using hv) fun many hmany => ?_
  have hmany2 : 1 ≤ many ∧ many ≤ 26 := by
    simp at hmany
    omega
  refine ⟨many, rfl, hL1, hmany2.2, fun z M2 hM2 hz => ?_⟩
  have hzl := hz.lets hmany2.1 hmany2.2
  refine draw_at (many := 26) hM2 (by omega) fun v2 L2 hL2 hv2 => ?_
  have hal : (signs ("ABCDEFGHIJKLMNOPQRSTUVWXYZ" : Str)).length = 26 := by decide +kernel
  refine ixR_sign (c := (signs ("ABCDEFGHIJKLMNOPQRSTUVWXYZ" : Str))[v2]'(by rw [hal]; omega)) (small' (by rw [DL.len_signs, hal]; omega)) (List.getElem?_eq_getElem _) ?_
  generalize (signs ("ABCDEFGHIJKLMNOPQRSTUVWXYZ" : Str))[v2]'_ = name
  refine ⟨Nat.zero_le _, by decide, by decide, ?_⟩
  have hzz : z.length < 1000 := by have := hzl.2.1; omega
  refine for_inv (fun i ρ M' => PS M' ∧ ∃ (cs : List (Str × Int)) (a b c d e f g h j : Option D), ρ = [some (.lst (ns.map D.int)), some (.ref 1), some (.str z), some (.str name), some (.tup (cs.map wordD)), a, b, c, d, e, f, g, h] ∧ CorpS cs ∧ ∀ x ∈ cs, In (signs z) x.1)
    ⟨hL2, [], none, none, none, none, none, none, none, none, none, rfl, ⟨⟨by decide, fun x hx => by cases hx⟩, fun x hx => by cases hx⟩, fun x hx => by cases hx⟩ ?_ ?_
  · rintro i x ρ M' ex ⟨hM', cs, a, b, c, d, e, f, g, h, j, rfl, ok, hin⟩
    obtain ⟨rfl, hi⟩ := range_item ex
    have hi : i < 3 := hi
    refine ⟨trivial, fun go k => ?_⟩
    walk_at "dl"
    refine ⟨(by show 3 ≤ sizeLine; decide), ?_⟩
    refine nat_item (l := [5, 12, 24]) (by simpa using hi) fun most hmost => ?_
    have hmost2 : most ≤ 100 := by
      simp at hmost
      omega
    refine draw_at (many := 6) hM' (by omega) fun v3 L3 hL3 hv3 => addR_int ?_
    refine ⟨z, most, 1 + v3, rfl, hL3, hzl, hmost2, by omega, fun cs2 L4 hL4 ok2 hin2 hcl => ?_⟩
    refine ⟨(by show 4 ≤ sizeLine; decide), ?_⟩
    refine draw_at (many := 4) hL4 (by omega) fun v4 L5 hL5 hv4 => ?_
    refine nat_item (l := [1, 3, 8, 16]) (by simpa using hv4) fun steps hsteps => ?_
    have hst : steps < 900 := by
      simp at hsteps
      omega
    refine ⟨z, name, cs2, steps, rfl, ⟨ok2, hin2, hzz, hst⟩, ite_nt ?_⟩
    refine draw_at (many := 3) hL5 (by omega) fun v5 L6 hL6 hv5 => ?_
    refine ⟨z, name, cs2, v5, rfl, ⟨ok2, hin2, hzz, by omega⟩, ite_nt ?_⟩
    exact .inl (k _ _ ⟨hL6, cs2, _, _, _, _, _, _, _, _, none, rfl, ok2, hin2⟩)
  rintro ρ M' ⟨hM', cs, a, b, c, d, e, f, g, h, j, rfl, ok, hin⟩
  refine ⟨trivial, ?_⟩
  walk_at "dl"
  refine ⟨2, rfl, hM', by omega, fun two M3 hM3 htwo => ?_⟩
  obtain ⟨x, y, hxy, rfl⟩ := two_of htwo
  have oz := htwo.2.2.2
  have ox : PyData.strOk (S [x]) = true := strOk_signs.mp oz _ (by rw [signs_S]; simp)
  have oy : PyData.strOk (S [y]) = true := strOk_signs.mp oz _ (by rw [signs_S]; simp)
  have i0 : ∀ (M : Store) (K : DK), K (.str (S [x])) M → ixR (.str (S [x, y])) (.int 0) M K := fun M K k => ixR_sign (n := 0) (small' (by rw [S_len]; simp)) (by rw [signs_S]; rfl) k
  have i1 : ∀ (M : Store) (K : DK), K (.str (S [y])) M → ixR (.str (S [x, y])) (.int 1) M K := fun M K k => ixR_sign (n := 1) (small' (by rw [S_len]; simp)) (by rw [signs_S]; rfl) k
  have mu : ∀ (n c : Nat) (M : Store) (K : DK), 1 ≤ c → c ≤ 100 → K (.str (S (List.replicate c n))) M → mulR (.str (S [n])) (.int (c : Nat)) M K := fun n c M K h1 h2 k => by
    refine mulR_str (mulOk (by omega) (by rw [S_len]; simp)) ?_
    rw [mul_S _ _ h1]
    exact k
  have two2 : (2 : Nat) ≤ sizeLine := by decide
  have three : (3 : Nat) ≤ sizeLine := by decide
  refine i0 _ _ (mu x 2 _ _ (by omega) (by omega) ⟨two2, two2, i1 _ _ (mu y 3 _ _ (by omega) (by omega) ⟨two2, three, ?_⟩)⟩)
  obtain ⟨k1, k2⟩ := corp3 ox oy 1 1 1
  have hS2 : (S [x, y]).length < 1000 := by rw [S_len]; simp
  refine ⟨endsOf x y, 9, rfl, k1, by omega, ?_⟩
  rw [ends_trained hxy]
  refine ixR_lst' (n := 0) rfl ?_
  refine i1 _ _ (i1 _ _ ⟨two2, i0 _ _ (i0 _ _ ⟨two2, i0 _ _ (i1 _ _ ⟨two2, i1 _ _ (mu y 2 _ _ (by omega) (by omega) (i1 _ _ ⟨two2, (by show 4 ≤ sizeLine; decide), ?_⟩))⟩)⟩)⟩)
  refine neR_self (rs := [(S [y], S [y]), (S [x], S [x]), (S [x], S [y]), (S [y, y], S [y])]) (shaped4 fun p hp => ?_) (ite_f ?_)
  · have oyy : PyData.strOk (S [y, y]) = true := ok_S fun n hn => by simp at hn; rw [hn]; exact oy
    simp only [List.mem_cons, List.not_mem_nil, or_false] at hp
    rcases hp with rfl | rfl | rfl | rfl <;> exact ⟨by assumption, by assumption⟩
  refine ⟨S [x, y], name, endsOf x y, 9, rfl, ⟨k1, k2, hS2, by omega⟩, ite_nt ?_⟩
  refine lc_map (sh := .many [11, 12]) trivial wordD (fun w => wordD (w.1, 0)) (endsOf x y) (small' (by show 3 ≤ 16000000; decide)) (fun w hw => ⟨_, rfl, fun K k => ⟨two2, k⟩⟩) ?_
  obtain ⟨k3, k4⟩ := corp3 ox oy 0 0 0
  refine ⟨S [x, y], name, [(S [x, x], 0), (S [x, y], 0), (S [y, y, y], 0)], 2, rfl, ⟨k3, k4, hS2, by omega⟩, ite_nt ?_⟩
  refine ⟨Nat.zero_le _, ?_⟩
  refine ⟨S [x, y], name, [], 5, rfl, ⟨⟨⟨by decide, fun x hx => by cases hx⟩, fun x hx => by cases hx⟩, (fun x hx => by cases hx), hS2, by omega⟩, ite_nt ?_⟩
  refine i0 _ _ ?_
  refine draw_at (many := 40) hM3 (by omega) fun v6 L7 hL7 hv6 => addR_int ?_
  refine mu x (41 + v6) _ _ (by omega) (by omega) ⟨two2, (by show 1 ≤ sizeLine; decide), ?_⟩
  refine ⟨S [x, y], name, [(S (List.replicate (41 + v6) x), 1)], 16, rfl, ⟨⟨⟨by simp, fun w hw => ?_⟩, fun w hw => ?_⟩, fun w hw => ?_, hS2, by omega⟩, ite_nt ?_⟩
  · rcases List.mem_singleton.mp hw with rfl
    show (S _).length < 1000
    rw [S_len, List.length_replicate]
    omega
  · rcases List.mem_singleton.mp hw with rfl
    exact ok_S fun n hn => by rw [List.eq_of_mem_replicate hn]; exact ox
  · rcases List.mem_singleton.mp hw with rfl
    exact in_S fun n hn => by rw [List.eq_of_mem_replicate hn]; simp
  refine draw_at (many := 13) hL7 (by omega) fun v7 L8 hL8 hv7 => eqR_int ?_
  try dsimp only
  refine ite_dec (fun h => ?_) (fun h => ?_)
  · refine draw_at (many := 5) hL8 (by omega) fun v8 L9 hL9 hv8 => addR_int ?_
    refine ⟨2 + v8, rfl, hL9, by omega, fun six L10 hL10 hsix => ?_⟩
    refine ⟨six, rfl, hL10, hsix.lets (by omega) (by omega), by rw [hsix.len]; omega, fun cs3 L11 hL11 ok3 hin3 => ?_⟩
    refine ⟨six, name, cs3, 16, rfl, ⟨ok3, hin3, by rw [hsix.len]; omega, by omega⟩, ite_nt ?_⟩
    exact ⟨z, name, cs, 4, rfl, ⟨ok, hin, hzz, by omega⟩, .inl (q _)⟩
  · exact ⟨z, name, cs, 4, rfl, ⟨ok, hin, hzz, by omega⟩, .inl (q _)⟩
end K

set_option Elab.async false
set_option linter.all false
set_option maxRecDepth 100000
set_option maxHeartbeats 2000000
namespace K
open PySem L2 DL
open PyProof.Rows hiding St signs inR
local macro_rules | `(tactic| walk_at "dl") => `(tactic| dsimp only [dSeq, dAsg, dgName, dVar, dC, dOp, dUn, dCB, dCons, dNil, dTup, dLst, dLstM, dNewK, dNewN, dRet, dRetN, dDrop, dIfS, dNext, dNever, dB, dAnd, dOr, dNot, dAndV, dOrV, dNotV, dIf, dMeth, dSl, dPart, dNoPart, dFor, dIter, dRange1, dRange2, dZip, dEnum, dLc, dLcM, dDc, dSortSet, dCall, dgSeq, dgSub, dgCons, dgNil, dPar, dAug, dBreak, dCont, dYes, endsD, slot, List.set_cons_zero, List.set_cons_succ, itemsD, listR, listRM, tupleR, viewL, viewS, DL.intOf, dwipe, setAll, Shape.bind])
local macro_rules | `(tactic| walk_at "op") => `(tactic| ((first | refine eqR_int ?_ | refine eqR_str ?_ | refine eqR_bl ?_ | refine neR_int ?_ | refine neR_str ?_ | refine ltR_int ?_ | refine leR_int ?_ | refine gtR_int ?_ | refine geR_int ?_ | refine addR_int ?_ | refine addR_str ?_ ?_ | refine iaddR_int ?_ | refine subR_int ?_ | refine isNR_q ?_ | refine notNR_q ?_ | refine lenR_lst ?_ | refine lenR_tup ?_ | refine intCR_int ?_ | refine intCR_bl ?_ | refine absR_int ?_); (try dsimp only)))
theorem len_need_kind (ds : List D) (M : Store) (Q : DK) (h : sp_need_kind ds M Q) : ds.length = 2 := by
  obtain ⟨_, _, _, rfl, _⟩ := h
  rfl
theorem len_joined_once (ds : List D) (M : Store) (Q : DK) (h : sp_joined_once ds M Q) : ds.length = 3 := by
  obtain ⟨_, _, _, rfl, _⟩ := h
  rfl
theorem len_piece_names (ds : List D) (M : Store) (Q : DK) (h : sp_piece_names ds M Q) : ds.length = 1 := by
  obtain ⟨_, _, _, rfl, _⟩ := h
  rfl
theorem len_joined_pieces (ds : List D) (M : Store) (Q : DK) (h : sp_joined_pieces ds M Q) : ds.length = 2 := by
  obtain ⟨_, _, _, rfl, _⟩ := h
  rfl
theorem len_join_cut (ds : List D) (M : Store) (Q : DK) (h : sp_join_cut ds M Q) : ds.length = 2 := by
  obtain ⟨_, _, _, _, rfl, _⟩ := h
  rfl
theorem len_pair_counts (ds : List D) (M : Store) (Q : DK) (h : sp_pair_counts ds M Q) : ds.length = 3 := by
  obtain ⟨_, _, _, rfl, _⟩ := h
  rfl
theorem len_chosen_pair (ds : List D) (M : Store) (Q : DK) (h : sp_chosen_pair ds M Q) : ds.length = 1 := by
  obtain ⟨_, rfl, _⟩ := h
  rfl
theorem len_trained_steps (ds : List D) (M : Store) (Q : DK) (h : sp_trained_steps ds M Q) : ds.length = 2 := by
  obtain ⟨_, _, rfl, _⟩ := h
  rfl
theorem len_train_joins (ds : List D) (M : Store) (Q : DK) (h : sp_train_joins ds M Q) : ds.length = 4 := by
  obtain ⟨_, _, _, _, rfl, _⟩ := h
  rfl
theorem len_train_log (ds : List D) (M : Store) (Q : DK) (h : sp_train_log ds M Q) : ds.length = 3 := by
  obtain ⟨_, _, _, rfl, _⟩ := h
  rfl
theorem len_u_law_counts (ds : List D) (M : Store) (Q : DK) (h : sp_u_law_counts ds M Q) : ds.length = 2 := by
  obtain ⟨_, _, _, rfl, _⟩ := h
  rfl
theorem len_u_law_joined (ds : List D) (M : Store) (Q : DK) (h : sp_u_law_joined ds M Q) : ds.length = 2 := by
  obtain ⟨_, _, rfl, _⟩ := h
  rfl
theorem len_u_law_trained (ds : List D) (M : Store) (Q : DK) (h : sp_u_law_trained ds M Q) : ds.length = 2 := by
  obtain ⟨_, _, rfl, _⟩ := h
  rfl
theorem len_u_law_pool (ds : List D) (M : Store) (Q : DK) (h : sp_u_law_pool ds M Q) : ds.length = 1 := by
  obtain ⟨_, rfl, _⟩ := h
  rfl
theorem len_u_law_draw (ds : List D) (M : Store) (Q : DK) (h : sp_u_law_draw ds M Q) : ds.length = 2 := by
  obtain ⟨_, _, _, rfl, _⟩ := h
  rfl
theorem len_u_law_letters (ds : List D) (M : Store) (Q : DK) (h : sp_u_law_letters ds M Q) : ds.length = 2 := by
  obtain ⟨_, rfl, _⟩ := h
  rfl
theorem len_u_law_word (ds : List D) (M : Store) (Q : DK) (h : sp_u_law_word ds M Q) : ds.length = 3 := by
  obtain ⟨_, _, rfl, _⟩ := h
  rfl
theorem len_u_law_count (ds : List D) (M : Store) (Q : DK) (h : sp_u_law_count ds M Q) : ds.length = 2 := by
  obtain ⟨_, rfl, _⟩ := h
  rfl
theorem len_u_law_corpus (ds : List D) (M : Store) (Q : DK) (h : sp_u_law_corpus ds M Q) : ds.length = 4 := by
  obtain ⟨_, _, _, rfl, _⟩ := h
  rfl
theorem len_u_law_wide (ds : List D) (M : Store) (Q : DK) (h : sp_u_law_wide ds M Q) : ds.length = 2 := by
  obtain ⟨_, rfl, _⟩ := h
  rfl
theorem len_u_law_log_right (ds : List D) (M : Store) (Q : DK) (h : sp_u_law_log_right ds M Q) : ds.length = 4 := by
  obtain ⟨_, _, _, rfl, _⟩ := h
  rfl
theorem len_u_law_holds (ds : List D) (M : Store) (Q : DK) (h : sp_u_law_holds ds M Q) : ds.length = 4 := by
  obtain ⟨_, _, _, _, rfl, _⟩ := h
  rfl
theorem len_law (ds : List D) (M : Store) (Q : DK) (h : sp_law ds M Q) : ds.length = 1 := by
  obtain ⟨_, rfl, _⟩ := h
  rfl
end K

set_option Elab.async false
set_option linter.all false
set_option maxRecDepth 100000
set_option maxHeartbeats 4000000
/-! printed by gen.py: the derivations -/
namespace K
open PySem L2 DL
open PyProof.Rows hiding St signs inR

def top (i : Nat) : Stmt := PySem.Challenge.pw_seamsight_k87_whole_training.main.body.getD i (.Pass ⟨0, 0, 0, 0⟩)

structure Txt (mg : Str → Option Value) : Prop where
  abs : mg "abs" = none
  bool : mg "bool" = none
  int : mg "int" = none
  isinstance : mg "isinstance" = none
  len : mg "len" = none
  list : mg "list" = none
  min : mg "min" = none
  range : mg "range" = none
  set : mg "set" = none
  sorted : mg "sorted" = none
  str : mg "str" = none
  tuple : mg "tuple" = none
  zip : mg "zip" = none

section
variable {P : Program} {w : World} {K : PySem.W.Frag} {mg : Str → Option Value} {base : Heap}

abbrev st_need_kind : Stmt := top 4
def n_need_kind : List Str := ["cutter", "kind"]
theorem sc_need_kind : FnScope n_need_kind ["cutter", "kind"] (defScope st_need_kind) := ⟨rfl, rfl, rfl, by decide +kernel, rfl, by decide +kernel, by decide +kernel⟩

theorem mk_need_kind {k : Nat} {sp : DSp} (T : Txt mg) {f : Addr} {fd : FuncData} (F : Fun K "need_kind" "need_kind" st_need_kind f fd) (len : ∀ ds M Q, sp ds M Q → ds.length = 2)
    (data : ∀ ds M Q, sp ds M Q → t_need_kind (endsD M Q) (startD 2 ds) M) : FnOk P w K mg base CX0 (k + 1) f fd ["cutter", "kind"] (toSp ⟨P, w, K⟩ sp) :=
  fd_mk F sc_need_kind len ⟨t_need_kind, fun cdv A outer s H E hr => by
    have hu := hr.units
    have hp := @PassesOwn.never
    exact
    (dss_one (ds_if (dt_cmpX (ox_ne hu) rfl (de_ix hu (de_var 0) de_int fun _ _ => rfl) (de_var 1))
      (dss_one ds_never)
      dss_nil)), data⟩

abbrev st_joined_once : Stmt := top 6
def n_joined_once : List Str := ["pieces", "left", "right", "told", "at"]
theorem sc_joined_once : FnScope n_joined_once ["pieces", "left", "right"] (defScope st_joined_once) := ⟨rfl, rfl, rfl, by decide +kernel, rfl, by decide +kernel, by decide +kernel⟩

theorem mk_joined_once {k : Nat} {sp : DSp} (T : Txt mg) {f : Addr} {fd : FuncData} (F : Fun K "joined_once" "joined_once" st_joined_once f fd) (len : ∀ ds M Q, sp ds M Q → ds.length = 3)
    (data : ∀ ds M Q, sp ds M Q → t_joined_once (endsD M Q) (startD 5 ds) M) : FnOk P w K mg base CX0 (k + 1) f fd ["pieces", "left", "right"] (toSp ⟨P, w, K⟩ sp) :=
  fd_mk F sc_joined_once len ⟨t_joined_once, fun cdv A outer s H E hr => by
    have hu := hr.units
    have hp := @PassesOwn.never
    exact
    (dss_cons (ds_set (i := 3) sc_joined_once.nd rfl (by first | exact Or.inl rfl | exact Or.inr rfl) (de_lstM da_nil))
    (dss_cons (ds_set (i := 4) sc_joined_once.nd rfl (by first | exact Or.inl rfl | exact Or.inr rfl) de_int)
    (dss_cons (ds_while hp (dt_cmpX ox_lt rfl (de_var 4) (de_callB cx_len (by rfl) T.len (by rfl) (da_cons (de_var 0) da_nil)))
      (dss_one (ds_if (dw_and (dt_cmpX (ox_eq hu) rfl (de_ix hu (de_var 0) (de_var 4) fun _ _ => rfl) (de_var 1)) (dw_and (dt_cmpX ox_lt rfl (de_opX ox_add (de_var 4) de_int) (de_callB cx_len (by rfl) T.len (by rfl) (da_cons (de_var 0) da_nil))) (dw_and1 (dt_cmpX (ox_eq hu) rfl (de_ix hu (de_var 0) (de_opX ox_add (de_var 4) de_int) fun _ _ => rfl) (de_var 2))))).dt
        (dss_cons (ds_expr (de_meth PySem.F.plainAttrs_list PySem.F.slot_list_append PySem.F.type_list_append mx_append (de_var 3) (da_cons (de_opX ox_add (de_var 1) (de_var 2)) da_nil)))
        (dss_one (ds_augX (i := 4) sc_joined_once.nd rfl (by first | exact Or.inl rfl | exact Or.inr rfl) ox_iadd de_int)))
        (dss_cons (ds_expr (de_meth PySem.F.plainAttrs_list PySem.F.slot_list_append PySem.F.type_list_append mx_append (de_var 3) (da_cons (de_ix hu (de_var 0) (de_var 4) fun _ _ => rfl) da_nil)))
        (dss_one (ds_augX (i := 4) sc_joined_once.nd rfl (by first | exact Or.inl rfl | exact Or.inr rfl) ox_iadd de_int))))))
    (dss_one (ds_ret (de_var 3)))))), data⟩

abbrev st_joined_pieces : Stmt := top 7
def n_joined_pieces : List Str := ["rules", "text", "pieces", "left", "right", "_"]
theorem sc_joined_pieces : FnScope n_joined_pieces ["rules", "text"] (defScope st_joined_pieces) := ⟨rfl, rfl, rfl, by decide +kernel, rfl, by decide +kernel, by decide +kernel⟩

theorem mk_joined_pieces {k : Nat} {sp : DSp} (T : Txt mg) {s_joined_once : DSp} {k_joined_once : Nat} (F_joined_once : Def P w K mg base "joined_once" k_joined_once ["pieces", "left", "right"] s_joined_once) (h_joined_once : k_joined_once ≤ k) {f : Addr} {fd : FuncData} (F : Fun K "joined_pieces" "joined_pieces" st_joined_pieces f fd) (len : ∀ ds M Q, sp ds M Q → ds.length = 2)
    (data : ∀ ds M Q, sp ds M Q → t_joined_pieces s_joined_once (endsD M Q) (startD 6 ds) M) : FnOk P w K mg base CX0 (k + 1) f fd ["rules", "text"] (toSp ⟨P, w, K⟩ sp) :=
  fd_mk F sc_joined_pieces len ⟨t_joined_pieces s_joined_once, fun cdv A outer s H E hr => by
    have hu := hr.units
    have hp := @PassesOwn.never
    exact
    (dss_cons (ds_set (i := 2) sc_joined_pieces.nd rfl (by first | exact Or.inl rfl | exact Or.inr rfl) (de_callTy (cx_list rfl) (by rfl) T.list (by rfl) (da_cons (de_var 1) da_nil)))
    (dss_cons (ds_for hp rfl (di_any (de_var 0)) (dg_seq (n := 3) rfl (dgs_cons (dg_name (i := 3) sc_joined_pieces.nd rfl (by first | exact Or.inl rfl | exact Or.inr rfl)) (dgs_cons (dg_name (i := 4) sc_joined_pieces.nd rfl (by first | exact Or.inl rfl | exact Or.inr rfl)) (dgs_cons (dg_name (i := 5) sc_joined_pieces.nd rfl (by first | exact Or.inl rfl | exact Or.inr rfl)) dgs_nil))))
      (dss_one (ds_set (i := 2) sc_joined_pieces.nd rfl (by first | exact Or.inl rfl | exact Or.inr rfl) (de_call F_joined_once (hr.mono h_joined_once) (by rfl) (da_cons (de_var 2) (da_cons (de_var 3) (da_cons (de_var 4) da_nil)))))))
    (dss_one (ds_ret (de_var 2))))), data⟩

abbrev st_piece_names : Stmt := top 8
def n_piece_names : List Str := ["joins", "names", "left", "right", "name", "letter"]
theorem sc_piece_names : FnScope n_piece_names ["joins"] (defScope st_piece_names) := ⟨rfl, rfl, rfl, by decide +kernel, rfl, by decide +kernel, by decide +kernel⟩

theorem mk_piece_names {k : Nat} {sp : DSp} (T : Txt mg) {f : Addr} {fd : FuncData} (F : Fun K "piece_names" "piece_names" st_piece_names f fd) (len : ∀ ds M Q, sp ds M Q → ds.length = 1)
    (data : ∀ ds M Q, sp ds M Q → t_piece_names (endsD M Q) (startD 6 ds) M) : FnOk P w K mg base CX0 (k + 1) f fd ["joins"] (toSp ⟨P, w, K⟩ sp) :=
  fd_mk F sc_piece_names len ⟨t_piece_names, fun cdv A outer s H E hr => by
    have hu := hr.units
    have hp := @PassesOwn.never
    exact
    (dss_cons (ds_setDc (i := 1) rfl sc_piece_names.nd rfl rfl (sw_dict rfl rfl rfl (by decide +kernel)) (di_any (de_ix hu (de_var 0) de_int fun _ _ => rfl)) (own := [("letter", 5)]) (sh := (.one 5)) (blkOk_by (N := n_piece_names) (by first | decide +kernel | kernel_rfl)) (by decide) (fun _ _ _ _ _ => (pg_name (i := 5) sc_piece_names.nd rfl (Or.inl rfl))) (fun _ _ _ _ _ => dts_nil) (fun _ _ _ _ _ => (de_var 5)) (fun _ _ _ _ _ => (de_ix hu (de_var 0) de_int fun _ _ => rfl)))
    (dss_cons (ds_for hp rfl (di_any (de_ix hu (de_var 0) de_int fun _ _ => rfl)) (dg_seq (n := 3) rfl (dgs_cons (dg_name (i := 2) sc_piece_names.nd rfl (by first | exact Or.inl rfl | exact Or.inr rfl)) (dgs_cons (dg_name (i := 3) sc_piece_names.nd rfl (by first | exact Or.inl rfl | exact Or.inr rfl)) (dgs_cons (dg_name (i := 4) sc_piece_names.nd rfl (by first | exact Or.inl rfl | exact Or.inr rfl)) dgs_nil))))
      (dss_one (ds_asg (de_var 4) (dg_sub hu (de_var 1) (de_opX ox_add (de_var 2) (de_var 3))))))
    (dss_one (ds_ret (de_var 1))))), data⟩

abbrev st_join_cut : Stmt := top 9
def n_join_cut : List Str := ["joins", "text", "names", "piece"]
theorem sc_join_cut : FnScope n_join_cut ["joins", "text"] (defScope st_join_cut) := ⟨rfl, rfl, rfl, by decide +kernel, rfl, by decide +kernel, by decide +kernel⟩

theorem mk_join_cut {k : Nat} {sp : DSp} (T : Txt mg) {s_need_kind : DSp} {k_need_kind : Nat} (F_need_kind : Def P w K mg base "need_kind" k_need_kind ["cutter", "kind"] s_need_kind) (h_need_kind : k_need_kind ≤ k) {s_piece_names : DSp} {k_piece_names : Nat} (F_piece_names : Def P w K mg base "piece_names" k_piece_names ["joins"] s_piece_names) (h_piece_names : k_piece_names ≤ k) {s_joined_pieces : DSp} {k_joined_pieces : Nat} (F_joined_pieces : Def P w K mg base "joined_pieces" k_joined_pieces ["rules", "text"] s_joined_pieces) (h_joined_pieces : k_joined_pieces ≤ k) {f : Addr} {fd : FuncData} (F : Fun K "join_cut" "join_cut" st_join_cut f fd) (len : ∀ ds M Q, sp ds M Q → ds.length = 2)
    (data : ∀ ds M Q, sp ds M Q → t_join_cut s_need_kind s_piece_names s_joined_pieces (endsD M Q) (startD 4 ds) M) : FnOk P w K mg base CX0 (k + 1) f fd ["joins", "text"] (toSp ⟨P, w, K⟩ sp) :=
  fd_mk F sc_join_cut len ⟨t_join_cut s_need_kind s_piece_names s_joined_pieces, fun cdv A outer s H E hr => by
    have hu := hr.units
    have hp := @PassesOwn.never
    exact
    (dss_cons (ds_expr (de_call F_need_kind (hr.mono h_need_kind) (by rfl) (da_cons (de_var 0) (da_cons de_str da_nil))))
    (dss_cons (ds_set (i := 2) sc_join_cut.nd rfl (by first | exact Or.inl rfl | exact Or.inr rfl) (de_call F_piece_names (hr.mono h_piece_names) (by rfl) (da_cons (de_var 0) da_nil)))
    (dss_one (ds_ret (de_callTy cx_tuple (by rfl) T.tuple (by rfl) (da_cons (de_lc rfl sc_join_cut.nd (di_any (de_call F_joined_pieces (hr.mono h_joined_pieces) (by rfl) (da_cons (de_ix hu (de_var 0) de_int fun _ _ => rfl) (da_cons (de_var 1) da_nil)))) (own := [("piece", 3)]) (sh := (.one 3)) (blkOk_by (N := n_join_cut) (by first | decide +kernel | kernel_rfl)) (by decide) (fun _ _ _ _ _ => (pg_name (i := 3) sc_join_cut.nd rfl (Or.inl rfl))) (fun _ _ _ _ _ => dts_nil) (fun _ _ _ _ _ => (de_tup (da_cons (de_var 3) (da_cons (de_ix hu (de_var 2) (de_var 3) fun _ _ => rfl) da_nil))))) da_nil)))))), data⟩

abbrev st_pair_counts : Stmt := top 11
def n_pair_counts : List Str := ["rows", "counts", "taken", "found", "pieces", "count", "left", "right"]
theorem sc_pair_counts : FnScope n_pair_counts ["rows", "counts", "taken"] (defScope st_pair_counts) := ⟨rfl, rfl, rfl, by decide +kernel, rfl, by decide +kernel, by decide +kernel⟩

theorem mk_pair_counts {k : Nat} {sp : DSp} (T : Txt mg) {f : Addr} {fd : FuncData} (F : Fun K "pair_counts" "pair_counts" st_pair_counts f fd) (len : ∀ ds M Q, sp ds M Q → ds.length = 3)
    (data : ∀ ds M Q, sp ds M Q → t_pair_counts (endsD M Q) (startD 8 ds) M) : FnOk P w K mg base CX0 (k + 1) f fd ["rows", "counts", "taken"] (toSp ⟨P, w, K⟩ sp) :=
  fd_mk F sc_pair_counts len ⟨t_pair_counts, fun cdv A outer s H E hr => by
    have hu := hr.units
    have hp := @PassesOwn.never
    exact
    (dss_cons (ds_set (i := 3) sc_pair_counts.nd rfl (by first | exact Or.inl rfl | exact Or.inr rfl) de_newN)
    (dss_cons (ds_for hp rfl (di_zip (by rfl) T.zip (da_cons (de_var 0) (da_cons (de_var 1) da_nil))) (dg_seq (n := 2) rfl (dgs_cons (dg_name (i := 4) sc_pair_counts.nd rfl (by first | exact Or.inl rfl | exact Or.inr rfl)) (dgs_cons (dg_name (i := 5) sc_pair_counts.nd rfl (by first | exact Or.inl rfl | exact Or.inr rfl)) dgs_nil)))
      (dss_one (ds_for hp rfl (di_zip (by rfl) T.zip (da_cons (de_var 4) (da_cons (de_slice (de_var 4) (do_some de_int) do_none) da_nil))) (dg_seq (n := 2) rfl (dgs_cons (dg_name (i := 6) sc_pair_counts.nd rfl (by first | exact Or.inl rfl | exact Or.inr rfl)) (dgs_cons (dg_name (i := 7) sc_pair_counts.nd rfl (by first | exact Or.inl rfl | exact Or.inr rfl)) dgs_nil)))
        (dss_one (ds_if (dt_cmpX (ox_notInD hu) rfl (de_opX ox_add (de_var 6) (de_var 7)) (de_var 2))
          (dss_one (ds_asg (de_opX ox_add (de_meth PySem.F.plainAttrs_dict PySem.F.slot_dict_get PySem.F.type_dict_get (mx_get hu) (de_var 3) (da_cons (de_tup (da_cons (de_var 6) (da_cons (de_var 7) da_nil))) (da_cons de_int da_nil))) (de_var 5)) (dg_sub hu (de_var 3) (de_tup (da_cons (de_var 6) (da_cons (de_var 7) da_nil))))))
          dss_nil)))))
    (dss_one (ds_ret (de_var 3))))), data⟩

abbrev st_chosen_pair : Stmt := top 12
def n_chosen_pair : List Str := ["found", "best", "most", "pair"]
theorem sc_chosen_pair : FnScope n_chosen_pair ["found"] (defScope st_chosen_pair) := ⟨rfl, rfl, rfl, by decide +kernel, rfl, by decide +kernel, by decide +kernel⟩

theorem mk_chosen_pair {k : Nat} {sp : DSp} (T : Txt mg) {f : Addr} {fd : FuncData} (F : Fun K "chosen_pair" "chosen_pair" st_chosen_pair f fd) (len : ∀ ds M Q, sp ds M Q → ds.length = 1)
    (data : ∀ ds M Q, sp ds M Q → t_chosen_pair (endsD M Q) (startD 4 ds) M) : FnOk P w K mg base CX0 (k + 1) f fd ["found"] (toSp ⟨P, w, K⟩ sp) :=
  fd_mk F sc_chosen_pair len ⟨t_chosen_pair, fun cdv A outer s H E hr => by
    have hu := hr.units
    have hp := @PassesOwn.never
    exact
    (dss_cons (ds_set (i := 1) sc_chosen_pair.nd rfl (by first | exact Or.inl rfl | exact Or.inr rfl) de_non)
    (dss_cons (ds_set (i := 2) sc_chosen_pair.nd rfl (by first | exact Or.inl rfl | exact Or.inr rfl) de_int)
    (dss_cons (ds_for hp rfl (di_any (de_callB (cx_sorted rfl hu) (by rfl) T.sorted (by rfl) (da_cons (de_var 0) da_nil))) (dg_name (i := 3) sc_chosen_pair.nd rfl (by first | exact Or.inl rfl | exact Or.inr rfl))
      (dss_one (ds_if (dt_cmpX ox_gt rfl (de_ix hu (de_var 0) (de_var 3) fun _ _ => rfl) (de_var 2))
        (dss_cons (ds_set (i := 1) sc_chosen_pair.nd rfl (by first | exact Or.inl rfl | exact Or.inr rfl) (de_var 3))
        (dss_one (ds_set (i := 2) sc_chosen_pair.nd rfl (by first | exact Or.inl rfl | exact Or.inr rfl) (de_ix hu (de_var 0) (de_var 3) fun _ _ => rfl))))
        dss_nil)))
    (dss_one (ds_ret (de_var 1)))))), data⟩

abbrev st_trained_steps : Stmt := top 13
def n_trained_steps : List Str := ["corpus", "steps", "rows", "counts", "taken", "told", "_", "found", "pair", "text", "count", "pieces"]
theorem sc_trained_steps : FnScope n_trained_steps ["corpus", "steps"] (defScope st_trained_steps) := ⟨rfl, rfl, rfl, by decide +kernel, rfl, by decide +kernel, by decide +kernel⟩

theorem mk_trained_steps {k : Nat} {sp : DSp} (T : Txt mg) {s_pair_counts : DSp} {k_pair_counts : Nat} (F_pair_counts : Def P w K mg base "pair_counts" k_pair_counts ["rows", "counts", "taken"] s_pair_counts) (h_pair_counts : k_pair_counts ≤ k) {s_chosen_pair : DSp} {k_chosen_pair : Nat} (F_chosen_pair : Def P w K mg base "chosen_pair" k_chosen_pair ["found"] s_chosen_pair) (h_chosen_pair : k_chosen_pair ≤ k) {s_joined_once : DSp} {k_joined_once : Nat} (F_joined_once : Def P w K mg base "joined_once" k_joined_once ["pieces", "left", "right"] s_joined_once) (h_joined_once : k_joined_once ≤ k) {f : Addr} {fd : FuncData} (F : Fun K "trained_steps" "trained_steps" st_trained_steps f fd) (len : ∀ ds M Q, sp ds M Q → ds.length = 2)
    (data : ∀ ds M Q, sp ds M Q → t_trained_steps s_pair_counts s_chosen_pair s_joined_once (endsD M Q) (startD 12 ds) M) : FnOk P w K mg base CX0 (k + 1) f fd ["corpus", "steps"] (toSp ⟨P, w, K⟩ sp) :=
  fd_mk F sc_trained_steps len ⟨t_trained_steps s_pair_counts s_chosen_pair s_joined_once, fun cdv A outer s H E hr => by
    have hu := hr.units
    have hp := @PassesOwn.never
    exact
    (dss_cons (ds_setLc (i := 2) rfl sc_trained_steps.nd rfl rfl (sw_true rfl rfl rfl (by decide +kernel)) (di_any (de_var 0)) (own := [("text", 9), ("count", 10)]) (sh := (.many [9, 10])) (blkOk_by (N := n_trained_steps) (by first | decide +kernel | kernel_rfl)) (by decide) (fun _ _ _ _ _ => (pg_tup rfl (pgs_cons (pg_name (i := 9) sc_trained_steps.nd rfl (Or.inl rfl)) (pgs_cons (pg_name (i := 10) sc_trained_steps.nd rfl (Or.inl rfl)) pgs_nil)))) (fun _ _ _ _ _ => dts_nil) (fun _ _ _ _ _ => (de_callTy (cx_list rfl) (by rfl) T.list (by rfl) (da_cons (de_var 9) da_nil))))
    (dss_cons (ds_setLc (i := 3) rfl sc_trained_steps.nd rfl rfl (sw_true rfl rfl rfl (by decide +kernel)) (di_any (de_var 0)) (own := [("text", 9), ("count", 10)]) (sh := (.many [9, 10])) (blkOk_by (N := n_trained_steps) (by first | decide +kernel | kernel_rfl)) (by decide) (fun _ _ _ _ _ => (pg_tup rfl (pgs_cons (pg_name (i := 9) sc_trained_steps.nd rfl (Or.inl rfl)) (pgs_cons (pg_name (i := 10) sc_trained_steps.nd rfl (Or.inl rfl)) pgs_nil)))) (fun _ _ _ _ _ => dts_nil) (fun _ _ _ _ _ => (de_var 10)))
    (dss_cons (ds_set (i := 4) sc_trained_steps.nd rfl (by first | exact Or.inl rfl | exact Or.inr rfl) de_newK)
    (dss_cons (ds_set (i := 5) sc_trained_steps.nd rfl (by first | exact Or.inl rfl | exact Or.inr rfl) (de_lstM da_nil))
    (dss_cons (ds_for hp rfl (di_range1 (by rfl) T.range (da_cons (de_var 1) da_nil)) (dg_name (i := 6) sc_trained_steps.nd rfl (by first | exact Or.inl rfl | exact Or.inr rfl))
      (dss_cons (ds_set (i := 7) sc_trained_steps.nd rfl (by first | exact Or.inl rfl | exact Or.inr rfl) (de_call F_pair_counts (hr.mono h_pair_counts) (by rfl) (da_cons (de_var 2) (da_cons (de_var 3) (da_cons (de_var 4) da_nil)))))
      (dss_cons (ds_set (i := 8) sc_trained_steps.nd rfl (by first | exact Or.inl rfl | exact Or.inr rfl) (de_call F_chosen_pair (hr.mono h_chosen_pair) (by rfl) (da_cons (de_var 7) da_nil)))
      (dss_cons (ds_expr (de_meth PySem.F.plainAttrs_list PySem.F.slot_list_append PySem.F.type_list_append mx_append (de_var 5) (da_cons (de_tup (da_cons (de_var 8) (da_cons (de_var 7) da_nil))) da_nil)))
      (dss_cons (ds_if (dt_cmpX ox_isN rfl (de_var 8) de_non)
        (dss_one (ds_ret (de_var 5)))
        dss_nil)
      (dss_cons (ds_asg de_bl (dg_sub hu (de_var 4) (de_opX ox_add (de_ix hu (de_var 8) de_int fun _ _ => rfl) (de_ix hu (de_var 8) de_int fun _ _ => rfl))))
      (dss_one (ds_setLc (i := 2) rfl sc_trained_steps.nd rfl rfl (sw_true rfl rfl rfl (by decide +kernel)) (di_any (de_var 2)) (own := [("pieces", 11)]) (sh := (.one 11)) (blkOk_by (N := n_trained_steps) (by first | decide +kernel | kernel_rfl)) (by decide) (fun _ _ _ _ _ => (pg_name (i := 11) sc_trained_steps.nd rfl (Or.inl rfl))) (fun _ _ _ _ _ => dts_nil) (fun _ _ _ _ _ => (de_call F_joined_once (hr.mono h_joined_once) (by rfl) (da_cons (de_var 11) (da_cons (de_ix hu (de_var 8) de_int fun _ _ => rfl) (da_cons (de_ix hu (de_var 8) de_int fun _ _ => rfl) da_nil)))))))))))))
    (dss_one (ds_ret (de_var 5)))))))), data⟩

abbrev st_train_joins : Stmt := top 14
def n_train_joins : List Str := ["letters", "name", "corpus", "steps", "rules", "pair", "found"]
theorem sc_train_joins : FnScope n_train_joins ["letters", "name", "corpus", "steps"] (defScope st_train_joins) := ⟨rfl, rfl, rfl, by decide +kernel, rfl, by decide +kernel, by decide +kernel⟩

theorem mk_train_joins {k : Nat} {sp : DSp} (T : Txt mg) {s_trained_steps : DSp} {k_trained_steps : Nat} (F_trained_steps : Def P w K mg base "trained_steps" k_trained_steps ["corpus", "steps"] s_trained_steps) (h_trained_steps : k_trained_steps ≤ k) {f : Addr} {fd : FuncData} (F : Fun K "train_joins" "train_joins" st_train_joins f fd) (len : ∀ ds M Q, sp ds M Q → ds.length = 4)
    (data : ∀ ds M Q, sp ds M Q → t_train_joins s_trained_steps (endsD M Q) (startD 7 ds) M) : FnOk P w K mg base CX0 (k + 1) f fd ["letters", "name", "corpus", "steps"] (toSp ⟨P, w, K⟩ sp) :=
  fd_mk F sc_train_joins len ⟨t_train_joins s_trained_steps, fun cdv A outer s H E hr => by
    have hu := hr.units
    have hp := @PassesOwn.never
    exact
    (dss_cons (ds_setLc (i := 4) rfl sc_train_joins.nd rfl rfl (sw_true rfl rfl rfl (by decide +kernel)) (di_any (de_call F_trained_steps (hr.mono h_trained_steps) (by rfl) (da_cons (de_var 2) (da_cons (de_var 3) da_nil)))) (own := [("pair", 5), ("found", 6)]) (sh := (.many [5, 6])) (blkOk_by (N := n_train_joins) (by first | decide +kernel | kernel_rfl)) (by decide) (fun _ _ _ _ _ => (pg_tup rfl (pgs_cons (pg_name (i := 5) sc_train_joins.nd rfl (Or.inl rfl)) (pgs_cons (pg_name (i := 6) sc_train_joins.nd rfl (Or.inl rfl)) pgs_nil)))) (fun _ _ _ _ _ => (dts_one (dt_cmpX ox_notN rfl (de_var 5) de_non))) (fun _ _ _ _ _ => (de_tup (da_cons (de_ix hu (de_var 5) de_int fun _ _ => rfl) (da_cons (de_ix hu (de_var 5) de_int fun _ _ => rfl) (da_cons (de_var 1) da_nil))))))
    (dss_one (ds_ret (de_tup (da_cons de_str (da_cons (de_var 0) (da_cons (de_var 1) (da_cons (de_callTy cx_tuple (by rfl) T.tuple (by rfl) (da_cons (de_var 4) da_nil)) da_nil)))))))), data⟩

abbrev st_train_log : Stmt := top 16
def n_train_log : List Str := ["letters", "corpus", "steps", "told", "pair", "found", "other"]
theorem sc_train_log : FnScope n_train_log ["letters", "corpus", "steps"] (defScope st_train_log) := ⟨rfl, rfl, rfl, by decide +kernel, rfl, by decide +kernel, by decide +kernel⟩

theorem mk_train_log {k : Nat} {sp : DSp} (T : Txt mg) {s_trained_steps : DSp} {k_trained_steps : Nat} (F_trained_steps : Def P w K mg base "trained_steps" k_trained_steps ["corpus", "steps"] s_trained_steps) (h_trained_steps : k_trained_steps ≤ k) {f : Addr} {fd : FuncData} (F : Fun K "train_log" "train_log" st_train_log f fd) (len : ∀ ds M Q, sp ds M Q → ds.length = 3)
    (data : ∀ ds M Q, sp ds M Q → t_train_log s_trained_steps (endsD M Q) (startD 7 ds) M) : FnOk P w K mg base CX0 (k + 1) f fd ["letters", "corpus", "steps"] (toSp ⟨P, w, K⟩ sp) :=
  fd_mk F sc_train_log len ⟨t_train_log s_trained_steps, fun cdv A outer s H E hr => by
    have hu := hr.units
    have hp := @PassesOwn.never
    exact
    (dss_cons (ds_set (i := 3) sc_train_log.nd rfl (by first | exact Or.inl rfl | exact Or.inr rfl) (de_lstM da_nil))
    (dss_cons (ds_for hp rfl (di_any (de_call F_trained_steps (hr.mono h_trained_steps) (by rfl) (da_cons (de_var 1) (da_cons (de_var 2) da_nil)))) (dg_seq (n := 2) rfl (dgs_cons (dg_name (i := 4) sc_train_log.nd rfl (by first | exact Or.inl rfl | exact Or.inr rfl)) (dgs_cons (dg_name (i := 5) sc_train_log.nd rfl (by first | exact Or.inl rfl | exact Or.inr rfl)) dgs_nil)))
      (dss_one (ds_expr (de_meth PySem.F.plainAttrs_list PySem.F.slot_list_append PySem.F.type_list_append mx_append (de_var 3) (da_cons (de_tup (da_cons (de_var 4) (da_cons (de_callTy cx_tuple (by rfl) T.tuple (by rfl) (da_cons (de_lc rfl sc_train_log.nd (di_any (de_callB (cx_sorted rfl hu) (by rfl) T.sorted (by rfl) (da_cons (de_var 5) da_nil))) (own := [("other", 6)]) (sh := (.one 6)) (blkOk_by (N := n_train_log) (by first | decide +kernel | kernel_rfl)) (by decide) (fun _ _ _ _ _ => (pg_name (i := 6) sc_train_log.nd rfl (Or.inl rfl))) (fun _ _ _ _ _ => dts_nil) (fun _ _ _ _ _ => (de_tup (da_cons (de_var 6) (da_cons (de_ix hu (de_var 5) (de_var 6) fun _ _ => rfl) da_nil))))) da_nil)) da_nil))) da_nil)))))
    (dss_one (ds_ret (de_callTy cx_tuple (by rfl) T.tuple (by rfl) (da_cons (de_var 3) da_nil)))))), data⟩

abbrev st_u_law_pool : Stmt := top 18
def n_u_law_pool : List Str := ["script", "great", "mixed", "cell", "size"]
theorem sc_u_law_pool : FnScope n_u_law_pool ["script"] (defScope st_u_law_pool) := ⟨rfl, rfl, rfl, by decide +kernel, rfl, by decide +kernel, by decide +kernel⟩

theorem mk_u_law_pool {k : Nat} {sp : DSp} (T : Txt mg) {f : Addr} {fd : FuncData} (F : Fun K "_law_pool" "_law_pool" st_u_law_pool f fd) (len : ∀ ds M Q, sp ds M Q → ds.length = 1)
    (data : ∀ ds M Q, sp ds M Q → t_u_law_pool (endsD M Q) (startD 5 ds) M) : FnOk P w K mg base CX0 (k + 1) f fd ["script"] (toSp ⟨P, w, K⟩ sp) :=
  fd_mk F sc_u_law_pool len ⟨t_u_law_pool, fun cdv A outer s H E hr => by
    have hu := hr.units
    have hp := @PassesOwn.never
    exact
    (dss_cons (ds_set (i := 1) sc_u_law_pool.nd rfl (by first | exact Or.inl rfl | exact Or.inr rfl) (de_lstM da_nil))
    (dss_cons (ds_set (i := 2) sc_u_law_pool.nd rfl (by first | exact Or.inl rfl | exact Or.inr rfl) (de_opX ox_add de_int (de_callB cx_len (by rfl) T.len (by rfl) (da_cons (de_var 0) da_nil))))
    (dss_cons (ds_for hp rfl (di_any (de_var 0)) (dg_name (i := 3) sc_u_law_pool.nd rfl (by first | exact Or.inl rfl | exact Or.inr rfl))
      (dss_cons (ds_set (i := 4) sc_u_law_pool.nd rfl (by first | exact Or.inl rfl | exact Or.inr rfl) (de_callB cx_abs (by rfl) T.abs (by rfl) (da_cons (de_var 3) da_nil)))
      (dss_cons (ds_if (dt_cmpX ox_ge rfl (de_var 4) (de_opX ox_pow de_int de_int))
        (dss_one (ds_expr (de_meth PySem.F.plainAttrs_list PySem.F.slot_list_append PySem.F.type_list_append mx_append (de_var 1) (da_cons (de_var 4) da_nil))))
        dss_nil)
      (dss_one (ds_set (i := 2) sc_u_law_pool.nd rfl (by first | exact Or.inl rfl | exact Or.inr rfl) (de_opX ox_mod (de_opX ox_add (de_opX ox_add (de_opX ox_add (de_opX ox_mul (de_callTy cx_int (by rfl) T.int (by rfl) (da_cons (de_var 2) da_nil)) de_int) (de_opX ox_mod (de_callTy cx_int (by rfl) T.int (by rfl) (da_cons (de_var 4) da_nil)) de_int)) (de_opX ox_mul de_int (de_callTy cx_int (by rfl) T.int (by rfl) (da_cons (de_cmpX ox_lt rfl (de_var 3) de_int) da_nil)))) de_int) de_int))))))
    (dss_one (ds_ret (de_lstM (da_cons (de_var 1) (da_cons de_int (da_cons (de_var 2) da_nil))))))))), data⟩

abbrev st_u_law_draw : Stmt := top 19
def n_u_law_draw : List Str := ["pool", "many", "great", "size", "mixed"]
theorem sc_u_law_draw : FnScope n_u_law_draw ["pool", "many"] (defScope st_u_law_draw) := ⟨rfl, rfl, rfl, by decide +kernel, rfl, by decide +kernel, by decide +kernel⟩

theorem mk_u_law_draw {k : Nat} {sp : DSp} (T : Txt mg) {f : Addr} {fd : FuncData} (F : Fun K "_law_draw" "_law_draw" st_u_law_draw f fd) (len : ∀ ds M Q, sp ds M Q → ds.length = 2)
    (data : ∀ ds M Q, sp ds M Q → t_u_law_draw (endsD M Q) (startD 5 ds) M) : FnOk P w K mg base CX0 (k + 1) f fd ["pool", "many"] (toSp ⟨P, w, K⟩ sp) :=
  fd_mk F sc_u_law_draw len ⟨t_u_law_draw, fun cdv A outer s H E hr => by
    have hu := hr.units
    have hp := @PassesOwn.never
    exact
    (dss_cons (ds_if (dt_cmpX ox_lt rfl (de_var 1) de_int)
      (dss_one (ds_ret de_int))
      dss_nil)
    (dss_cons (ds_set (i := 2) sc_u_law_draw.nd rfl (by first | exact Or.inl rfl | exact Or.inr rfl) (de_ix hu (de_var 0) de_int fun _ _ => rfl))
    (dss_cons (ds_if (dt_cmpX ox_lt rfl (de_ix hu (de_var 0) de_int fun _ _ => rfl) (de_callB cx_len (by rfl) T.len (by rfl) (da_cons (de_var 2) da_nil)))
      (dss_cons (ds_set (i := 3) sc_u_law_draw.nd rfl (by first | exact Or.inl rfl | exact Or.inr rfl) (de_callTy cx_int (by rfl) T.int (by rfl) (da_cons (de_ix hu (de_var 2) (de_ix hu (de_var 0) de_int fun _ _ => rfl) fun _ _ => rfl) da_nil)))
      (dss_cons (ds_asg (de_opX ox_fdiv (de_var 3) (de_var 1)) (dg_sub hu (de_var 2) (de_ix hu (de_var 0) de_int fun _ _ => rfl)))
      (dss_cons (ds_if (dt_cmpX ox_lt rfl (de_var 3) (de_var 1))
        (dss_one (ds_asg (de_opX ox_add (de_ix hu (de_var 0) de_int fun _ _ => rfl) de_int) (dg_sub hu (de_var 0) de_int)))
        dss_nil)
      (dss_one (ds_ret (de_opX ox_mod (de_callTy cx_int (by rfl) T.int (by rfl) (da_cons (de_var 3) da_nil)) (de_var 1)))))))
      dss_nil)
    (dss_cons (ds_set (i := 4) sc_u_law_draw.nd rfl (by first | exact Or.inl rfl | exact Or.inr rfl) (de_opX ox_mod (de_opX ox_add (de_opX ox_mul (de_callTy cx_int (by rfl) T.int (by rfl) (da_cons (de_ix hu (de_var 0) de_int fun _ _ => rfl) da_nil)) de_int) de_int) de_int))
    (dss_cons (ds_asg (de_var 4) (dg_sub hu (de_var 0) de_int))
    (dss_one (ds_ret (de_opX ox_mod (de_opX ox_fdiv (de_opX ox_mod (de_callTy cx_int (by rfl) T.int (by rfl) (da_cons (de_opX ox_add (de_opX ox_mul (de_var 4) de_int) (de_opX ox_fdiv (de_var 4) de_int)) da_nil)) de_int) de_int) (de_var 1))))))))), data⟩

abbrev st_u_law_letters : Stmt := top 20
def n_u_law_letters : List Str := ["pool", "many", "left", "picked", "lap"]
theorem sc_u_law_letters : FnScope n_u_law_letters ["pool", "many"] (defScope st_u_law_letters) := ⟨rfl, rfl, rfl, by decide +kernel, rfl, by decide +kernel, by decide +kernel⟩

theorem mk_u_law_letters {k : Nat} {sp : DSp} (T : Txt mg) {s_u_law_draw : DSp} {k_u_law_draw : Nat} (F_u_law_draw : Def P w K mg base "_law_draw" k_u_law_draw ["pool", "many"] s_u_law_draw) (h_u_law_draw : k_u_law_draw ≤ k) {f : Addr} {fd : FuncData} (F : Fun K "_law_letters" "_law_letters" st_u_law_letters f fd) (len : ∀ ds M Q, sp ds M Q → ds.length = 2)
    (data : ∀ ds M Q, sp ds M Q → t_u_law_letters s_u_law_draw (endsD M Q) (startD 5 ds) M) : FnOk P w K mg base CX0 (k + 1) f fd ["pool", "many"] (toSp ⟨P, w, K⟩ sp) :=
  fd_mk F sc_u_law_letters len ⟨t_u_law_letters s_u_law_draw, fun cdv A outer s H E hr => by
    have hu := hr.units
    have hp := @PassesOwn.never
    exact
    (dss_cons (ds_set (i := 2) sc_u_law_letters.nd rfl (by first | exact Or.inl rfl | exact Or.inr rfl) (de_callTy (cx_listM rfl) (by rfl) T.list (by rfl) (da_cons de_str da_nil)))
    (dss_cons (ds_set (i := 3) sc_u_law_letters.nd rfl (by first | exact Or.inl rfl | exact Or.inr rfl) (de_lstM da_nil))
    (dss_cons (ds_for hp rfl (di_range1 (by rfl) T.range (da_cons (de_var 1) da_nil)) (dg_name (i := 4) sc_u_law_letters.nd rfl (by first | exact Or.inl rfl | exact Or.inr rfl))
      (dss_one (ds_expr (de_meth PySem.F.plainAttrs_list PySem.F.slot_list_append PySem.F.type_list_append mx_append (de_var 3) (da_cons (de_meth PySem.F.plainAttrs_list PySem.F.slot_list_pop PySem.F.type_list_pop mx_popAt (de_var 2) (da_cons (de_call F_u_law_draw (hr.mono h_u_law_draw) (by rfl) (da_cons (de_var 0) (da_cons (de_callB cx_len (by rfl) T.len (by rfl) (da_cons (de_var 2) da_nil)) da_nil))) da_nil)) da_nil)))))
    (dss_one (ds_ret (de_meth PySem.F.plainAttrs_str PySem.F.slot_str_join PySem.F.type_str_join mx_join de_str (da_cons (de_callB (cx_sorted rfl hu) (by rfl) T.sorted (by rfl) (da_cons (de_var 3) da_nil)) da_nil))))))), data⟩

abbrev st_u_law_word : Stmt := top 21
def n_u_law_word : List Str := ["pool", "letters", "most", "block", "many", "text", "at", "lap"]
theorem sc_u_law_word : FnScope n_u_law_word ["pool", "letters", "most"] (defScope st_u_law_word) := ⟨rfl, rfl, rfl, by decide +kernel, rfl, by decide +kernel, by decide +kernel⟩

theorem mk_u_law_word {k : Nat} {sp : DSp} (T : Txt mg) {s_u_law_draw : DSp} {k_u_law_draw : Nat} (F_u_law_draw : Def P w K mg base "_law_draw" k_u_law_draw ["pool", "many"] s_u_law_draw) (h_u_law_draw : k_u_law_draw ≤ k) {f : Addr} {fd : FuncData} (F : Fun K "_law_word" "_law_word" st_u_law_word f fd) (len : ∀ ds M Q, sp ds M Q → ds.length = 3)
    (data : ∀ ds M Q, sp ds M Q → t_u_law_word s_u_law_draw (endsD M Q) (startD 8 ds) M) : FnOk P w K mg base CX0 (k + 1) f fd ["pool", "letters", "most"] (toSp ⟨P, w, K⟩ sp) :=
  fd_mk F sc_u_law_word len ⟨t_u_law_word s_u_law_draw, fun cdv A outer s H E hr => by
    have hu := hr.units
    have hp := @PassesOwn.never
    exact
    (dss_cons (ds_set (i := 3) sc_u_law_word.nd rfl (by first | exact Or.inl rfl | exact Or.inr rfl) (de_meth PySem.F.plainAttrs_str PySem.F.slot_str_join PySem.F.type_str_join mx_join de_str (da_cons (de_lc rfl sc_u_law_word.nd (di_range1 (by rfl) T.range (da_cons (de_opX ox_add de_int (de_call F_u_law_draw (hr.mono h_u_law_draw) (by rfl) (da_cons (de_var 0) (da_cons de_int da_nil)))) da_nil)) (own := [("lap", 7)]) (sh := (.one 7)) (blkOk_by (N := n_u_law_word) (by first | decide +kernel | kernel_rfl)) (by decide) (fun _ _ _ _ _ => (pg_name (i := 7) sc_u_law_word.nd rfl (Or.inl rfl))) (fun _ _ _ _ _ => dts_nil) (fun _ _ _ _ _ => (de_ix hu (de_var 1) (de_call F_u_law_draw (hr.mono h_u_law_draw) (by rfl) (da_cons (de_var 0) (da_cons (de_callB cx_len (by rfl) T.len (by rfl) (da_cons (de_var 1) da_nil)) da_nil))) fun _ _ => rfl))) da_nil)))
    (dss_cons (ds_set (i := 4) sc_u_law_word.nd rfl (by first | exact Or.inl rfl | exact Or.inr rfl) (de_opX ox_add de_int (de_call F_u_law_draw (hr.mono h_u_law_draw) (by rfl) (da_cons (de_var 0) (da_cons (de_var 2) da_nil)))))
    (dss_cons (ds_set (i := 5) sc_u_law_word.nd rfl (by first | exact Or.inl rfl | exact Or.inr rfl) (de_slice (de_opX ox_mul (de_var 3) (de_opX ox_add (de_opX ox_fdiv (de_var 4) (de_callB cx_len (by rfl) T.len (by rfl) (da_cons (de_var 3) da_nil))) de_int)) do_none (do_some (de_var 4))))
    (dss_cons (ds_if (dt_cmpX (ox_eq hu) rfl (de_call F_u_law_draw (hr.mono h_u_law_draw) (by rfl) (da_cons (de_var 0) (da_cons de_int da_nil))) de_int)
      (dss_cons (ds_set (i := 6) sc_u_law_word.nd rfl (by first | exact Or.inl rfl | exact Or.inr rfl) (de_call F_u_law_draw (hr.mono h_u_law_draw) (by rfl) (da_cons (de_var 0) (da_cons (de_var 4) da_nil))))
      (dss_one (ds_set (i := 5) sc_u_law_word.nd rfl (by first | exact Or.inl rfl | exact Or.inr rfl) (de_opX ox_add (de_opX ox_add (de_slice (de_var 5) do_none (do_some (de_var 6))) (de_ix hu (de_var 1) (de_call F_u_law_draw (hr.mono h_u_law_draw) (by rfl) (da_cons (de_var 0) (da_cons (de_callB cx_len (by rfl) T.len (by rfl) (da_cons (de_var 1) da_nil)) da_nil))) fun _ _ => rfl)) (de_slice (de_var 5) (do_some (de_opX ox_add (de_var 6) de_int)) do_none)))))
      dss_nil)
    (dss_one (ds_ret (de_var 5))))))), data⟩

abbrev st_u_law_count : Stmt := top 22
def n_u_law_count : List Str := ["pool", "same", "pick"]
theorem sc_u_law_count : FnScope n_u_law_count ["pool", "same"] (defScope st_u_law_count) := ⟨rfl, rfl, rfl, by decide +kernel, rfl, by decide +kernel, by decide +kernel⟩

theorem mk_u_law_count {k : Nat} {sp : DSp} (T : Txt mg) {s_u_law_draw : DSp} {k_u_law_draw : Nat} (F_u_law_draw : Def P w K mg base "_law_draw" k_u_law_draw ["pool", "many"] s_u_law_draw) (h_u_law_draw : k_u_law_draw ≤ k) {f : Addr} {fd : FuncData} (F : Fun K "_law_count" "_law_count" st_u_law_count f fd) (len : ∀ ds M Q, sp ds M Q → ds.length = 2)
    (data : ∀ ds M Q, sp ds M Q → t_u_law_count s_u_law_draw (endsD M Q) (startD 3 ds) M) : FnOk P w K mg base CX0 (k + 1) f fd ["pool", "same"] (toSp ⟨P, w, K⟩ sp) :=
  fd_mk F sc_u_law_count len ⟨t_u_law_count s_u_law_draw, fun cdv A outer s H E hr => by
    have hu := hr.units
    have hp := @PassesOwn.never
    exact
    (dss_cons (ds_set (i := 2) sc_u_law_count.nd rfl (by first | exact Or.inl rfl | exact Or.inr rfl) (de_call F_u_law_draw (hr.mono h_u_law_draw) (by rfl) (da_cons (de_var 0) (da_cons de_int da_nil))))
    (dss_cons (ds_if (dt_cmpX (ox_eq hu) rfl (de_var 2) de_int)
      (dss_one (ds_ret de_int))
      dss_nil)
    (dss_cons (ds_if (dt_cmpX ox_lt rfl (de_var 2) de_int)
      (dss_one (ds_ret (de_var 1)))
      dss_nil)
    (dss_cons (ds_if (dt_cmpX (ox_eq hu) rfl (de_var 2) de_int)
      (dss_one (ds_ret (de_opX ox_sub (de_opX ox_pow de_int de_int) (de_call F_u_law_draw (hr.mono h_u_law_draw) (by rfl) (da_cons (de_var 0) (da_cons de_int da_nil))))))
      dss_nil)
    (dss_one (ds_ret (de_opX ox_add de_int (de_call F_u_law_draw (hr.mono h_u_law_draw) (by rfl) (da_cons (de_var 0) (da_cons de_int da_nil)))))))))), data⟩

abbrev st_u_law_corpus : Stmt := top 23
def n_u_law_corpus : List Str := ["pool", "letters", "most", "many", "words", "same", "lap", "word"]
theorem sc_u_law_corpus : FnScope n_u_law_corpus ["pool", "letters", "most", "many"] (defScope st_u_law_corpus) := ⟨rfl, rfl, rfl, by decide +kernel, rfl, by decide +kernel, by decide +kernel⟩

theorem mk_u_law_corpus {k : Nat} {sp : DSp} (T : Txt mg) {s_u_law_word : DSp} {k_u_law_word : Nat} (F_u_law_word : Def P w K mg base "_law_word" k_u_law_word ["pool", "letters", "most"] s_u_law_word) (h_u_law_word : k_u_law_word ≤ k) {s_u_law_draw : DSp} {k_u_law_draw : Nat} (F_u_law_draw : Def P w K mg base "_law_draw" k_u_law_draw ["pool", "many"] s_u_law_draw) (h_u_law_draw : k_u_law_draw ≤ k) {s_u_law_count : DSp} {k_u_law_count : Nat} (F_u_law_count : Def P w K mg base "_law_count" k_u_law_count ["pool", "same"] s_u_law_count) (h_u_law_count : k_u_law_count ≤ k) {f : Addr} {fd : FuncData} (F : Fun K "_law_corpus" "_law_corpus" st_u_law_corpus f fd) (len : ∀ ds M Q, sp ds M Q → ds.length = 4)
    (data : ∀ ds M Q, sp ds M Q → t_u_law_corpus s_u_law_word s_u_law_draw s_u_law_count (endsD M Q) (startD 8 ds) M) : FnOk P w K mg base CX0 (k + 1) f fd ["pool", "letters", "most", "many"] (toSp ⟨P, w, K⟩ sp) :=
  fd_mk F sc_u_law_corpus len ⟨t_u_law_corpus s_u_law_word s_u_law_draw s_u_law_count, fun cdv A outer s H E hr => by
    have hu := hr.units
    have hp := @PassesOwn.never
    exact
    (dss_cons (ds_setLc (i := 4) rfl sc_u_law_corpus.nd rfl rfl (sw_true rfl rfl rfl (by decide +kernel)) (di_range1 (by rfl) T.range (da_cons (de_var 3) da_nil)) (own := [("lap", 6)]) (sh := (.one 6)) (blkOk_by (N := n_u_law_corpus) (by first | decide +kernel | kernel_rfl)) (by decide) (fun _ _ _ _ _ => (pg_name (i := 6) sc_u_law_corpus.nd rfl (Or.inl rfl))) (fun _ _ _ _ _ => dts_nil) (fun _ _ _ _ _ => (de_call F_u_law_word (hr.mono h_u_law_word) (by rfl) (da_cons (de_var 0) (da_cons (de_var 1) (da_cons (de_var 2) da_nil))))))
    (dss_cons (ds_set (i := 5) sc_u_law_corpus.nd rfl (by first | exact Or.inl rfl | exact Or.inr rfl) (de_opX ox_add de_int (de_call F_u_law_draw (hr.mono h_u_law_draw) (by rfl) (da_cons (de_var 0) (da_cons de_int da_nil)))))
    (dss_one (ds_ret (de_callTy cx_tuple (by rfl) T.tuple (by rfl) (da_cons (de_lc rfl sc_u_law_corpus.nd (di_any (de_sortSet rfl hu (by rfl) T.sorted (by rfl) T.set (de_var 4))) (own := [("word", 7)]) (sh := (.one 7)) (blkOk_by (N := n_u_law_corpus) (by first | decide +kernel | kernel_rfl)) (by decide) (fun _ _ _ _ _ => (pg_name (i := 7) sc_u_law_corpus.nd rfl (Or.inl rfl))) (fun _ _ _ _ _ => dts_nil) (fun _ _ _ _ _ => (de_tup (da_cons (de_var 7) (da_cons (de_call F_u_law_count (hr.mono h_u_law_count) (by rfl) (da_cons (de_var 0) (da_cons (de_var 5) da_nil))) da_nil))))) da_nil)))))), data⟩

abbrev st_u_law_wide : Stmt := top 24
def n_u_law_wide : List Str := ["pool", "letters", "rows", "number", "head", "body", "power", "lap"]
theorem sc_u_law_wide : FnScope n_u_law_wide ["pool", "letters"] (defScope st_u_law_wide) := ⟨rfl, rfl, rfl, by decide +kernel, rfl, by decide +kernel, by decide +kernel⟩

theorem mk_u_law_wide {k : Nat} {sp : DSp} (T : Txt mg) {s_u_law_draw : DSp} {k_u_law_draw : Nat} (F_u_law_draw : Def P w K mg base "_law_draw" k_u_law_draw ["pool", "many"] s_u_law_draw) (h_u_law_draw : k_u_law_draw ≤ k) {f : Addr} {fd : FuncData} (F : Fun K "_law_wide" "_law_wide" st_u_law_wide f fd) (len : ∀ ds M Q, sp ds M Q → ds.length = 2)
    (data : ∀ ds M Q, sp ds M Q → t_u_law_wide s_u_law_draw (endsD M Q) (startD 8 ds) M) : FnOk P w K mg base CX0 (k + 1) f fd ["pool", "letters"] (toSp ⟨P, w, K⟩ sp) :=
  fd_mk F sc_u_law_wide len ⟨t_u_law_wide s_u_law_draw, fun cdv A outer s H E hr => by
    have hu := hr.units
    have hp := @PassesOwn.never
    exact
    (dss_cons (ds_set (i := 2) sc_u_law_wide.nd rfl (by first | exact Or.inl rfl | exact Or.inr rfl) (de_lstM da_nil))
    (dss_cons (ds_for hp rfl (di_range1 (by rfl) T.range (da_cons de_int da_nil)) (dg_name (i := 3) sc_u_law_wide.nd rfl (by first | exact Or.inl rfl | exact Or.inr rfl))
      (dss_cons (ds_set (i := 4) sc_u_law_wide.nd rfl (by first | exact Or.inl rfl | exact Or.inr rfl) (de_if (dt_cmpX ox_gt rfl (de_callB cx_len (by rfl) T.len (by rfl) (da_cons (de_var 1) da_nil)) de_int) (de_meth PySem.F.plainAttrs_str PySem.F.slot_str_join PySem.F.type_str_join mx_join de_str (da_cons (de_lc rfl sc_u_law_wide.nd (di_any (de_tup (da_cons de_int (da_cons de_int (da_cons de_int (da_cons de_int da_nil)))))) (own := [("power", 6)]) (sh := (.one 6)) (blkOk_by (N := n_u_law_wide) (by first | decide +kernel | kernel_rfl)) (by decide) (fun _ _ _ _ _ => (pg_name (i := 6) sc_u_law_wide.nd rfl (Or.inl rfl))) (fun _ _ _ _ _ => dts_nil) (fun _ _ _ _ _ => (de_ix hu (de_var 1) (de_opX ox_mod (de_opX ox_fdiv (de_var 3) (de_var 6)) de_int) fun _ _ => rfl))) da_nil)) de_str))
      (dss_cons (ds_if (dt_cmpX ox_lt rfl (de_callB cx_len (by rfl) T.len (by rfl) (da_cons (de_var 1) da_nil)) de_int)
        (dss_one (ds_set (i := 4) sc_u_law_wide.nd rfl (by first | exact Or.inl rfl | exact Or.inr rfl) (de_meth PySem.F.plainAttrs_str PySem.F.slot_str_join PySem.F.type_str_join mx_join de_str (da_cons (de_lc rfl sc_u_law_wide.nd (di_any (de_tup (da_cons de_int (da_cons de_int (da_cons de_int (da_cons de_int (da_cons de_int (da_cons de_int da_nil)))))))) (own := [("power", 6)]) (sh := (.one 6)) (blkOk_by (N := n_u_law_wide) (by first | decide +kernel | kernel_rfl)) (by decide) (fun _ _ _ _ _ => (pg_name (i := 6) sc_u_law_wide.nd rfl (Or.inl rfl))) (fun _ _ _ _ _ => dts_nil) (fun _ _ _ _ _ => (de_ix hu (de_var 1) (de_opX ox_mod (de_opX ox_fdiv (de_var 3) (de_var 6)) de_int) fun _ _ => rfl))) da_nil))))
        dss_nil)
      (dss_cons (ds_set (i := 5) sc_u_law_wide.nd rfl (by first | exact Or.inl rfl | exact Or.inr rfl) (de_meth PySem.F.plainAttrs_str PySem.F.slot_str_join PySem.F.type_str_join mx_join de_str (da_cons (de_lc rfl sc_u_law_wide.nd (di_range1 (by rfl) T.range (da_cons (de_opX ox_sub (de_opX ox_sub de_int (de_callB cx_len (by rfl) T.len (by rfl) (da_cons (de_var 4) da_nil))) (de_call F_u_law_draw (hr.mono h_u_law_draw) (by rfl) (da_cons (de_var 0) (da_cons de_int da_nil)))) da_nil)) (own := [("lap", 7)]) (sh := (.one 7)) (blkOk_by (N := n_u_law_wide) (by first | decide +kernel | kernel_rfl)) (by decide) (fun _ _ _ _ _ => (pg_name (i := 7) sc_u_law_wide.nd rfl (Or.inl rfl))) (fun _ _ _ _ _ => dts_nil) (fun _ _ _ _ _ => (de_ix hu (de_var 1) (de_call F_u_law_draw (hr.mono h_u_law_draw) (by rfl) (da_cons (de_var 0) (da_cons (de_callB cx_len (by rfl) T.len (by rfl) (da_cons (de_var 1) da_nil)) da_nil))) fun _ _ => rfl))) da_nil)))
      (dss_one (ds_expr (de_meth PySem.F.plainAttrs_list PySem.F.slot_list_append PySem.F.type_list_append mx_append (de_var 2) (da_cons (de_tup (da_cons (de_opX ox_add (de_var 4) (de_var 5)) (da_cons (de_opX ox_sub (de_opX ox_pow de_int de_int) (de_call F_u_law_draw (hr.mono h_u_law_draw) (by rfl) (da_cons (de_var 0) (da_cons (de_opX ox_add (de_opX ox_pow de_int de_int) de_int) da_nil)))) da_nil))) da_nil))))))))
    (dss_one (ds_ret (de_callTy cx_tuple (by rfl) T.tuple (by rfl) (da_cons (de_var 2) da_nil)))))), data⟩

abbrev st_u_law_counts : Stmt := top 25
def n_u_law_counts : List Str := ["lines", "joined", "found", "pieces", "count", "at", "pair"]
theorem sc_u_law_counts : FnScope n_u_law_counts ["lines", "joined"] (defScope st_u_law_counts) := ⟨rfl, rfl, rfl, by decide +kernel, rfl, by decide +kernel, by decide +kernel⟩

theorem mk_u_law_counts {k : Nat} {sp : DSp} (T : Txt mg) {f : Addr} {fd : FuncData} (F : Fun K "_law_counts" "_law_counts" st_u_law_counts f fd) (len : ∀ ds M Q, sp ds M Q → ds.length = 2)
    (data : ∀ ds M Q, sp ds M Q → t_u_law_counts (endsD M Q) (startD 7 ds) M) : FnOk P w K mg base CX0 (k + 1) f fd ["lines", "joined"] (toSp ⟨P, w, K⟩ sp) :=
  fd_mk F sc_u_law_counts len ⟨t_u_law_counts, fun cdv A outer s H E hr => by
    have hu := hr.units
    have hp := @PassesOwn.never
    exact
    (dss_cons (ds_set (i := 2) sc_u_law_counts.nd rfl (by first | exact Or.inl rfl | exact Or.inr rfl) de_newN)
    (dss_cons (ds_for hp rfl (di_any (de_var 0)) (dg_seq (n := 2) rfl (dgs_cons (dg_name (i := 3) sc_u_law_counts.nd rfl (by first | exact Or.inl rfl | exact Or.inr rfl)) (dgs_cons (dg_name (i := 4) sc_u_law_counts.nd rfl (by first | exact Or.inl rfl | exact Or.inr rfl)) dgs_nil)))
      (dss_one (ds_for hp rfl (di_range1 (by rfl) T.range (da_cons (de_opX ox_sub (de_callB cx_len (by rfl) T.len (by rfl) (da_cons (de_var 3) da_nil)) de_int) da_nil)) (dg_name (i := 5) sc_u_law_counts.nd rfl (by first | exact Or.inl rfl | exact Or.inr rfl))
        (dss_one (ds_if (dt_cmpX (ox_notInD hu) rfl (de_opX ox_add (de_ix hu (de_var 3) (de_var 5) fun _ _ => rfl) (de_ix hu (de_var 3) (de_opX ox_add (de_var 5) de_int) fun _ _ => rfl)) (de_var 1))
          (dss_cons (ds_set (i := 6) sc_u_law_counts.nd rfl (by first | exact Or.inl rfl | exact Or.inr rfl) (de_tup (da_cons (de_ix hu (de_var 3) (de_var 5) fun _ _ => rfl) (da_cons (de_ix hu (de_var 3) (de_opX ox_add (de_var 5) de_int) fun _ _ => rfl) da_nil))))
          (dss_one (ds_asg (de_opX ox_add (de_meth PySem.F.plainAttrs_dict PySem.F.slot_dict_get PySem.F.type_dict_get (mx_get hu) (de_var 2) (da_cons (de_var 6) (da_cons de_int da_nil))) (de_var 4)) (dg_sub hu (de_var 2) (de_var 6)))))
          dss_nil)))))
    (dss_one (ds_ret (de_var 2))))), data⟩

abbrev st_u_law_joined : Stmt := top 26
def n_u_law_joined : List Str := ["pieces", "pair", "made", "at"]
theorem sc_u_law_joined : FnScope n_u_law_joined ["pieces", "pair"] (defScope st_u_law_joined) := ⟨rfl, rfl, rfl, by decide +kernel, rfl, by decide +kernel, by decide +kernel⟩

theorem mk_u_law_joined {k : Nat} {sp : DSp} (T : Txt mg) {f : Addr} {fd : FuncData} (F : Fun K "_law_joined" "_law_joined" st_u_law_joined f fd) (len : ∀ ds M Q, sp ds M Q → ds.length = 2)
    (data : ∀ ds M Q, sp ds M Q → t_u_law_joined (endsD M Q) (startD 4 ds) M) : FnOk P w K mg base CX0 (k + 1) f fd ["pieces", "pair"] (toSp ⟨P, w, K⟩ sp) :=
  fd_mk F sc_u_law_joined len ⟨t_u_law_joined, fun cdv A outer s H E hr => by
    have hu := hr.units
    have hp := @PassesOwn.never
    exact
    (dss_cons (ds_set (i := 2) sc_u_law_joined.nd rfl (by first | exact Or.inl rfl | exact Or.inr rfl) (de_lstM da_nil))
    (dss_cons (ds_set (i := 3) sc_u_law_joined.nd rfl (by first | exact Or.inl rfl | exact Or.inr rfl) de_int)
    (dss_cons (ds_while hp (dt_cmpX ox_lt rfl (de_var 3) (de_callB cx_len (by rfl) T.len (by rfl) (da_cons (de_var 0) da_nil)))
      (dss_one (ds_if (dw_and (dt_cmpX ox_lt rfl (de_opX ox_add (de_var 3) de_int) (de_callB cx_len (by rfl) T.len (by rfl) (da_cons (de_var 0) da_nil))) (dw_and1 (dt_cmpX (ox_eq hu) rfl (de_tup (da_cons (de_ix hu (de_var 0) (de_var 3) fun _ _ => rfl) (da_cons (de_ix hu (de_var 0) (de_opX ox_add (de_var 3) de_int) fun _ _ => rfl) da_nil))) (de_var 1)))).dt
        (dss_cons (ds_expr (de_meth PySem.F.plainAttrs_list PySem.F.slot_list_append PySem.F.type_list_append mx_append (de_var 2) (da_cons (de_opX ox_add (de_ix hu (de_var 0) (de_var 3) fun _ _ => rfl) (de_ix hu (de_var 0) (de_opX ox_add (de_var 3) de_int) fun _ _ => rfl)) da_nil)))
        (dss_one (ds_set (i := 3) sc_u_law_joined.nd rfl (by first | exact Or.inl rfl | exact Or.inr rfl) (de_opX ox_add (de_var 3) de_int))))
        (dss_cons (ds_expr (de_meth PySem.F.plainAttrs_list PySem.F.slot_list_append PySem.F.type_list_append mx_append (de_var 2) (da_cons (de_ix hu (de_var 0) (de_var 3) fun _ _ => rfl) da_nil)))
        (dss_one (ds_set (i := 3) sc_u_law_joined.nd rfl (by first | exact Or.inl rfl | exact Or.inr rfl) (de_opX ox_add (de_var 3) de_int)))))))
    (dss_one (ds_ret (de_var 2)))))), data⟩

abbrev st_u_law_trained : Stmt := top 27
def n_u_law_trained : List Str := ["corpus", "steps", "lines", "rules", "joined", "step", "found", "most", "best", "pair", "text", "count", "sign", "pieces"]
theorem sc_u_law_trained : FnScope n_u_law_trained ["corpus", "steps"] (defScope st_u_law_trained) := ⟨rfl, rfl, rfl, by decide +kernel, rfl, by decide +kernel, by decide +kernel⟩

theorem mk_u_law_trained {k : Nat} {sp : DSp} (T : Txt mg) {s_u_law_counts : DSp} {k_u_law_counts : Nat} (F_u_law_counts : Def P w K mg base "_law_counts" k_u_law_counts ["lines", "joined"] s_u_law_counts) (h_u_law_counts : k_u_law_counts ≤ k) {s_u_law_joined : DSp} {k_u_law_joined : Nat} (F_u_law_joined : Def P w K mg base "_law_joined" k_u_law_joined ["pieces", "pair"] s_u_law_joined) (h_u_law_joined : k_u_law_joined ≤ k) {f : Addr} {fd : FuncData} (F : Fun K "_law_trained" "_law_trained" st_u_law_trained f fd) (len : ∀ ds M Q, sp ds M Q → ds.length = 2)
    (data : ∀ ds M Q, sp ds M Q → t_u_law_trained s_u_law_counts s_u_law_joined (endsD M Q) (startD 14 ds) M) : FnOk P w K mg base CX0 (k + 1) f fd ["corpus", "steps"] (toSp ⟨P, w, K⟩ sp) :=
  fd_mk F sc_u_law_trained len ⟨t_u_law_trained s_u_law_counts s_u_law_joined, fun cdv A outer s H E hr => by
    have hu := hr.units
    have hp := @PassesOwn.never
    exact
    (dss_cons (ds_setLc (i := 2) rfl sc_u_law_trained.nd rfl rfl (sw_true rfl rfl rfl (by decide +kernel)) (di_any (de_var 0)) (own := [("text", 10), ("count", 11)]) (sh := (.many [10, 11])) (blkOk_by (N := n_u_law_trained) (by first | decide +kernel | kernel_rfl)) (by decide) (fun _ _ _ _ _ => (pg_tup rfl (pgs_cons (pg_name (i := 10) sc_u_law_trained.nd rfl (Or.inl rfl)) (pgs_cons (pg_name (i := 11) sc_u_law_trained.nd rfl (Or.inl rfl)) pgs_nil)))) (fun _ _ _ _ _ => dts_nil) (fun _ _ _ _ _ => (de_tup (da_cons (de_lc rfl sc_u_law_trained.nd (di_any (de_var 10)) (own := [("sign", 12)]) (sh := (.one 12)) (blkOk_by (N := n_u_law_trained) (by first | decide +kernel | kernel_rfl)) (by decide) (fun _ _ _ _ _ => (pg_name (i := 12) sc_u_law_trained.nd rfl (Or.inl rfl))) (fun _ _ _ _ _ => dts_nil) (fun _ _ _ _ _ => (de_var 12))) (da_cons (de_var 11) da_nil)))))
    (dss_cons (ds_set (i := 3) sc_u_law_trained.nd rfl (by first | exact Or.inl rfl | exact Or.inr rfl) (de_lstM da_nil))
    (dss_cons (ds_set (i := 4) sc_u_law_trained.nd rfl (by first | exact Or.inl rfl | exact Or.inr rfl) de_newK)
    (dss_cons (ds_for hp rfl (di_range1 (by rfl) T.range (da_cons (de_var 1) da_nil)) (dg_name (i := 5) sc_u_law_trained.nd rfl (by first | exact Or.inl rfl | exact Or.inr rfl))
      (dss_cons (ds_set (i := 6) sc_u_law_trained.nd rfl (by first | exact Or.inl rfl | exact Or.inr rfl) (de_call F_u_law_counts (hr.mono h_u_law_counts) (by rfl) (da_cons (de_var 2) (da_cons (de_var 4) da_nil))))
      (dss_cons (ds_set (i := 7) sc_u_law_trained.nd rfl (by first | exact Or.inl rfl | exact Or.inr rfl) de_int)
      (dss_cons (ds_set (i := 8) sc_u_law_trained.nd rfl (by first | exact Or.inl rfl | exact Or.inr rfl) de_non)
      (dss_cons (ds_for hp rfl (di_any (de_callB (cx_sorted rfl hu) (by rfl) T.sorted (by rfl) (da_cons (de_var 6) da_nil))) (dg_name (i := 9) sc_u_law_trained.nd rfl (by first | exact Or.inl rfl | exact Or.inr rfl))
        (dss_one (ds_if (dt_cmpX ox_gt rfl (de_ix hu (de_var 6) (de_var 9) fun _ _ => rfl) (de_var 7))
          (dss_cons (ds_set (i := 7) sc_u_law_trained.nd rfl (by first | exact Or.inl rfl | exact Or.inr rfl) (de_ix hu (de_var 6) (de_var 9) fun _ _ => rfl))
          (dss_one (ds_set (i := 8) sc_u_law_trained.nd rfl (by first | exact Or.inl rfl | exact Or.inr rfl) (de_var 9))))
          dss_nil)))
      (dss_cons (ds_if (dt_cmpX ox_isN rfl (de_var 8) de_non)
        (dss_one ds_break)
        dss_nil)
      (dss_cons (ds_expr (de_meth PySem.F.plainAttrs_list PySem.F.slot_list_append PySem.F.type_list_append mx_append (de_var 3) (da_cons (de_var 8) da_nil)))
      (dss_cons (ds_asg de_bl (dg_sub hu (de_var 4) (de_opX ox_add (de_ix hu (de_var 8) de_int fun _ _ => rfl) (de_ix hu (de_var 8) de_int fun _ _ => rfl))))
      (dss_one (ds_setLc (i := 2) rfl sc_u_law_trained.nd rfl rfl (sw_true rfl rfl rfl (by decide +kernel)) (di_any (de_var 2)) (own := [("pieces", 13), ("count", 11)]) (sh := (.many [13, 11])) (blkOk_by (N := n_u_law_trained) (by first | decide +kernel | kernel_rfl)) (by decide) (fun _ _ _ _ _ => (pg_tup rfl (pgs_cons (pg_name (i := 13) sc_u_law_trained.nd rfl (Or.inl rfl)) (pgs_cons (pg_name (i := 11) sc_u_law_trained.nd rfl (Or.inl rfl)) pgs_nil)))) (fun _ _ _ _ _ => dts_nil) (fun _ _ _ _ _ => (de_tup (da_cons (de_call F_u_law_joined (hr.mono h_u_law_joined) (by rfl) (da_cons (de_var 13) (da_cons (de_var 8) da_nil))) (da_cons (de_var 11) da_nil))))))))))))))
    (dss_one (ds_ret (de_lst (da_cons (de_var 3) (da_cons (de_lc rfl sc_u_law_trained.nd (di_any (de_var 2)) (own := [("pieces", 13), ("count", 11)]) (sh := (.many [13, 11])) (blkOk_by (N := n_u_law_trained) (by first | decide +kernel | kernel_rfl)) (by decide) (fun _ _ _ _ _ => (pg_tup rfl (pgs_cons (pg_name (i := 13) sc_u_law_trained.nd rfl (Or.inl rfl)) (pgs_cons (pg_name (i := 11) sc_u_law_trained.nd rfl (Or.inl rfl)) pgs_nil)))) (fun _ _ _ _ _ => dts_nil) (fun _ _ _ _ _ => (de_var 13))) da_nil))))))))), data⟩

abbrev st_u_law_same : Stmt := top 28
def n_u_law_same : List Str := ["told", "due", "at"]
theorem sc_u_law_same : FnScope n_u_law_same ["told", "due"] (defScope st_u_law_same) := ⟨rfl, rfl, rfl, by decide +kernel, rfl, by decide +kernel, by decide +kernel⟩

theorem mk_u_law_same {k : Nat} {sp : DSp} (T : Txt mg) {s_u_law_same : DSp} {k_u_law_same : Nat} (F_u_law_same : Def P w K mg base "_law_same" k_u_law_same ["told", "due"] s_u_law_same) (h_u_law_same : k_u_law_same ≤ k) {f : Addr} {fd : FuncData} (F : Fun K "_law_same" "_law_same" st_u_law_same f fd) (len : ∀ ds M Q, sp ds M Q → ds.length = 2)
    (data : ∀ ds M Q, sp ds M Q → t_u_law_same s_u_law_same (endsD M Q) (startD 3 ds) M) : FnOk P w K mg base CX0 (k + 1) f fd ["told", "due"] (toSp ⟨P, w, K⟩ sp) :=
  fd_mk F sc_u_law_same len ⟨t_u_law_same s_u_law_same, fun cdv A outer s H E hr => by
    have hu := hr.units
    have hp := @PassesOwn.never
    exact
    (dss_cons (ds_if (dt_cmpX ox_isN rfl (de_var 1) de_non)
      (dss_one (ds_ret (de_cmpX ox_isN rfl (de_var 0) de_non)))
      dss_nil)
    (dss_cons (ds_if (dt_val (de_callB cx_isi (by rfl) T.isinstance (by rfl) (da_cons (de_var 1) (da_cons (de_ty (by rfl) T.bool (by rfl)) da_nil))))
      (dss_one (ds_ret (de_and (de_callB cx_isi (by rfl) T.isinstance (by rfl) (da_cons (de_var 0) (da_cons (de_ty (by rfl) T.bool (by rfl)) da_nil))) (de_one (de_cmpX (ox_eq hu) rfl (de_var 0) (de_var 1))))))
      dss_nil)
    (dss_cons (ds_if (dt_val (de_callB cx_isi (by rfl) T.isinstance (by rfl) (da_cons (de_var 1) (da_cons (de_ty (by rfl) T.int (by rfl)) da_nil))))
      (dss_one (ds_ret (de_and (de_callB cx_isi (by rfl) T.isinstance (by rfl) (da_cons (de_var 0) (da_cons (de_ty (by rfl) T.int (by rfl)) da_nil))) (de_and (de_not (de_callB cx_isi (by rfl) T.isinstance (by rfl) (da_cons (de_var 0) (da_cons (de_ty (by rfl) T.bool (by rfl)) da_nil)))) (de_one (de_cmpX (ox_eq hu) rfl (de_var 0) (de_var 1)))))))
      dss_nil)
    (dss_cons (ds_if (dt_val (de_callB cx_isi (by rfl) T.isinstance (by rfl) (da_cons (de_var 1) (da_cons (de_ty (by rfl) T.str (by rfl)) da_nil))))
      (dss_one (ds_ret (de_and (de_callB cx_isi (by rfl) T.isinstance (by rfl) (da_cons (de_var 0) (da_cons (de_ty (by rfl) T.str (by rfl)) da_nil))) (de_one (de_cmpX (ox_eq hu) rfl (de_var 0) (de_var 1))))))
      dss_nil)
    (dss_cons (ds_if (dw_or (dt_not (dt_val (de_callB cx_isi (by rfl) T.isinstance (by rfl) (da_cons (de_var 0) (da_cons (de_ty (by rfl) T.tuple (by rfl)) da_nil))))) (dw_or1 (dt_cmpX (ox_ne hu) rfl (de_callB cx_len (by rfl) T.len (by rfl) (da_cons (de_var 0) da_nil)) (de_callB cx_len (by rfl) T.len (by rfl) (da_cons (de_var 1) da_nil))))).dt
      (dss_one (ds_ret de_bl))
      dss_nil)
    (dss_cons (ds_for hp rfl (di_range1 (by rfl) T.range (da_cons (de_callB cx_len (by rfl) T.len (by rfl) (da_cons (de_var 1) da_nil)) da_nil)) (dg_name (i := 2) sc_u_law_same.nd rfl (by first | exact Or.inl rfl | exact Or.inr rfl))
      (dss_one (ds_if (dt_not (dt_val (de_call F_u_law_same (hr.mono h_u_law_same) (by rfl) (da_cons (de_ix hu (de_var 0) (de_var 2) fun _ _ => rfl) (da_cons (de_ix hu (de_var 1) (de_var 2) fun _ _ => rfl) da_nil)))))
        (dss_one (ds_ret de_bl))
        dss_nil)))
    (dss_one (ds_ret de_bl)))))))), data⟩

abbrev st_u_law_log_right : Stmt := top 29
def n_u_law_log_right : List Str := ["letters", "corpus", "steps", "rules", "told", "ended", "at"]
theorem sc_u_law_log_right : FnScope n_u_law_log_right ["letters", "corpus", "steps", "rules"] (defScope st_u_law_log_right) := ⟨rfl, rfl, rfl, by decide +kernel, rfl, by decide +kernel, by decide +kernel⟩

theorem mk_u_law_log_right {k : Nat} {sp : DSp} (T : Txt mg) {s_train_log : DSp} {k_train_log : Nat} (F_train_log : Def P w K mg base "train_log" k_train_log ["letters", "corpus", "steps"] s_train_log) (h_train_log : k_train_log ≤ k) {s_u_law_same : DSp} {k_u_law_same : Nat} (F_u_law_same : Def P w K mg base "_law_same" k_u_law_same ["told", "due"] s_u_law_same) (h_u_law_same : k_u_law_same ≤ k) {f : Addr} {fd : FuncData} (F : Fun K "_law_log_right" "_law_log_right" st_u_law_log_right f fd) (len : ∀ ds M Q, sp ds M Q → ds.length = 4)
    (data : ∀ ds M Q, sp ds M Q → t_u_law_log_right s_train_log s_u_law_same (endsD M Q) (startD 7 ds) M) : FnOk P w K mg base CX0 (k + 1) f fd ["letters", "corpus", "steps", "rules"] (toSp ⟨P, w, K⟩ sp) :=
  fd_mk F sc_u_law_log_right len ⟨t_u_law_log_right s_train_log s_u_law_same, fun cdv A outer s H E hr => by
    have hu := hr.units
    have hp := @PassesOwn.never
    exact
    (dss_cons (ds_set (i := 4) sc_u_law_log_right.nd rfl (by first | exact Or.inl rfl | exact Or.inr rfl) (de_call F_train_log (hr.mono h_train_log) (by rfl) (da_cons (de_var 0) (da_cons (de_var 1) (da_cons (de_var 2) da_nil)))))
    (dss_cons (ds_if (dt_not (dt_val (de_callB cx_isi (by rfl) T.isinstance (by rfl) (da_cons (de_var 4) (da_cons (de_ty (by rfl) T.tuple (by rfl)) da_nil)))))
      (dss_one (ds_ret de_bl))
      dss_nil)
    (dss_cons (ds_set (i := 5) sc_u_law_log_right.nd rfl (by first | exact Or.inl rfl | exact Or.inr rfl) (de_cmpX ox_lt rfl (de_callB cx_len (by rfl) T.len (by rfl) (da_cons (de_var 3) da_nil)) (de_var 2)))
    (dss_cons (ds_if (dt_cmpX (ox_ne hu) rfl (de_callB cx_len (by rfl) T.len (by rfl) (da_cons (de_var 4) da_nil)) (de_opX ox_add (de_callB cx_len (by rfl) T.len (by rfl) (da_cons (de_var 3) da_nil)) (de_callTy cx_int (by rfl) T.int (by rfl) (da_cons (de_var 5) da_nil))))
      (dss_one (ds_ret de_bl))
      dss_nil)
    (dss_cons (ds_for hp rfl (di_range1 (by rfl) T.range (da_cons (de_callB cx_len (by rfl) T.len (by rfl) (da_cons (de_var 4) da_nil)) da_nil)) (dg_name (i := 6) sc_u_law_log_right.nd rfl (by first | exact Or.inl rfl | exact Or.inr rfl))
      (dss_cons (ds_if (dw_or (dt_not (dt_val (de_callB cx_isi (by rfl) T.isinstance (by rfl) (da_cons (de_ix hu (de_var 4) (de_var 6) fun _ _ => rfl) (da_cons (de_ty (by rfl) T.tuple (by rfl)) da_nil))))) (dw_or1 (dt_cmpX (ox_ne hu) rfl (de_callB cx_len (by rfl) T.len (by rfl) (da_cons (de_ix hu (de_var 4) (de_var 6) fun _ _ => rfl) da_nil)) de_int))).dt
        (dss_one (ds_ret de_bl))
        dss_nil)
      (dss_one (ds_if (dt_not (dt_val (de_call F_u_law_same (hr.mono h_u_law_same) (by rfl) (da_cons (de_ix hu (de_ix hu (de_var 4) (de_var 6) fun _ _ => rfl) de_int fun _ _ => rfl) (da_cons (de_if (dt_cmpX ox_lt rfl (de_var 6) (de_callB cx_len (by rfl) T.len (by rfl) (da_cons (de_var 3) da_nil))) (de_ix hu (de_var 3) (de_var 6) fun _ _ => rfl) de_non) da_nil)))))
        (dss_one (ds_ret de_bl))
        dss_nil))))
    (dss_one (ds_ret de_bl))))))), data⟩

abbrev st_u_law_holds : Stmt := top 30
def n_u_law_holds : List Str := ["letters", "name", "corpus", "steps", "rules", "lines", "due", "at", "row", "left", "right", "rule", "piece"]
theorem sc_u_law_holds : FnScope n_u_law_holds ["letters", "name", "corpus", "steps"] (defScope st_u_law_holds) := ⟨rfl, rfl, rfl, by decide +kernel, rfl, by decide +kernel, by decide +kernel⟩

theorem mk_u_law_holds {k : Nat} {sp : DSp} (T : Txt mg) {s_u_law_trained : DSp} {k_u_law_trained : Nat} (F_u_law_trained : Def P w K mg base "_law_trained" k_u_law_trained ["corpus", "steps"] s_u_law_trained) (h_u_law_trained : k_u_law_trained ≤ k) {s_u_law_same : DSp} {k_u_law_same : Nat} (F_u_law_same : Def P w K mg base "_law_same" k_u_law_same ["told", "due"] s_u_law_same) (h_u_law_same : k_u_law_same ≤ k) {s_train_joins : DSp} {k_train_joins : Nat} (F_train_joins : Def P w K mg base "train_joins" k_train_joins ["letters", "name", "corpus", "steps"] s_train_joins) (h_train_joins : k_train_joins ≤ k) {s_u_law_log_right : DSp} {k_u_law_log_right : Nat} (F_u_law_log_right : Def P w K mg base "_law_log_right" k_u_law_log_right ["letters", "corpus", "steps", "rules"] s_u_law_log_right) (h_u_law_log_right : k_u_law_log_right ≤ k) {s_join_cut : DSp} {k_join_cut : Nat} (F_join_cut : Def P w K mg base "join_cut" k_join_cut ["joins", "text"] s_join_cut) (h_join_cut : k_join_cut ≤ k) {c_SeamError : Value} (h_SeamError : mg "SeamError" = some c_SeamError) {f : Addr} {fd : FuncData} (F : Fun K "_law_holds" "_law_holds" st_u_law_holds f fd) (len : ∀ ds M Q, sp ds M Q → ds.length = 4)
    (data : ∀ ds M Q, sp ds M Q → t_u_law_holds s_u_law_trained s_u_law_same s_train_joins s_u_law_log_right s_join_cut (endsD M Q) (startD 13 ds) M) : FnOk P w K mg base CX0 (k + 1) f fd ["letters", "name", "corpus", "steps"] (toSp ⟨P, w, K⟩ sp) :=
  fd_mk F sc_u_law_holds len ⟨t_u_law_holds s_u_law_trained s_u_law_same s_train_joins s_u_law_log_right s_join_cut, fun cdv A outer s H E hr => by
    have hu := hr.units
    have hp := @PassesOwn.never
    exact
    (dss_cons (ds_asg (de_call F_u_law_trained (hr.mono h_u_law_trained) (by rfl) (da_cons (de_var 2) (da_cons (de_var 3) da_nil))) (dg_seq (n := 2) rfl (dgs_cons (dg_name (i := 4) sc_u_law_holds.nd rfl (by first | exact Or.inl rfl | exact Or.inr rfl)) (dgs_cons (dg_name (i := 5) sc_u_law_holds.nd rfl (by first | exact Or.inl rfl | exact Or.inr rfl)) dgs_nil))))
    (dss_cons (ds_set (i := 6) sc_u_law_holds.nd rfl (by first | exact Or.inl rfl | exact Or.inr rfl) (de_tup (da_cons de_str (da_cons (de_var 0) (da_cons (de_var 1) (da_cons (de_callTy cx_tuple (by rfl) T.tuple (by rfl) (da_cons (de_lc rfl sc_u_law_holds.nd (di_any (de_var 4)) (own := [("left", 9), ("right", 10)]) (sh := (.many [9, 10])) (blkOk_by (N := n_u_law_holds) (by first | decide +kernel | kernel_rfl)) (by decide) (fun _ _ _ _ _ => (pg_tup rfl (pgs_cons (pg_name (i := 9) sc_u_law_holds.nd rfl (Or.inl rfl)) (pgs_cons (pg_name (i := 10) sc_u_law_holds.nd rfl (Or.inl rfl)) pgs_nil)))) (fun _ _ _ _ _ => dts_nil) (fun _ _ _ _ _ => (de_tup (da_cons (de_var 9) (da_cons (de_var 10) (da_cons (de_var 1) da_nil)))))) da_nil)) da_nil))))))
    (dss_cons (ds_try rfl rfl ⟨rfl, by decide, .inl h_SeamError⟩ fun pn xe hp =>
      (dss_cons (ds_if (dt_not (dt_val (de_call F_u_law_same (hr.mono h_u_law_same) (by rfl) (da_cons (de_call F_train_joins (hr.mono h_train_joins) (by rfl) (da_cons (de_var 0) (da_cons (de_var 1) (da_cons (de_var 2) (da_cons (de_var 3) da_nil))))) (da_cons (de_var 6) da_nil)))))
        (dss_one (ds_ret de_bl))
        dss_nil)
      (dss_cons (ds_if (dt_not (dt_val (de_call F_u_law_log_right (hr.mono h_u_law_log_right) (by rfl) (da_cons (de_var 0) (da_cons (de_var 2) (da_cons (de_var 3) (da_cons (de_var 4) da_nil)))))))
        (dss_one (ds_ret de_bl))
        dss_nil)
      (dss_one (ds_if (dt_cmpX (ox_eq hu) rfl (de_callB cx_len (by rfl) T.len (by rfl) (da_cons (de_lc rfl sc_u_law_holds.nd (di_any (de_var 4)) (own := [("rule", 11)]) (sh := (.one 11)) (blkOk_by (N := n_u_law_holds) (by first | decide +kernel | kernel_rfl)) (by decide) (fun _ _ _ _ _ => (pg_name (i := 11) sc_u_law_holds.nd rfl (Or.inl rfl))) (fun _ _ _ _ _ => (dts_one (dt_cmpX ox_gt rfl (de_callB cx_len (by rfl) T.len (by rfl) (da_cons (de_opX ox_add (de_ix hu (de_var 11) de_int fun _ _ => rfl) (de_ix hu (de_var 11) de_int fun _ _ => rfl)) da_nil)) de_int))) (fun _ _ _ _ _ => (de_var 11))) da_nil)) de_int)
        (dss_one (ds_for hp rfl (di_range1 (by rfl) T.range (da_cons (de_callB (cx_min2 rfl) (by rfl) T.min (by rfl) (da_cons (de_callB cx_len (by rfl) T.len (by rfl) (da_cons (de_var 2) da_nil)) (da_cons de_int da_nil))) da_nil)) (dg_name (i := 7) sc_u_law_holds.nd rfl (by first | exact Or.inl rfl | exact Or.inr rfl))
          (dss_cons (ds_set (i := 8) sc_u_law_holds.nd rfl (by first | exact Or.inl rfl | exact Or.inr rfl) (de_callTy cx_tuple (by rfl) T.tuple (by rfl) (da_cons (de_lc rfl sc_u_law_holds.nd (di_any (de_ix hu (de_var 5) (de_var 7) fun _ _ => rfl)) (own := [("piece", 12)]) (sh := (.one 12)) (blkOk_by (N := n_u_law_holds) (by first | decide +kernel | kernel_rfl)) (by decide) (fun _ _ _ _ _ => (pg_name (i := 12) sc_u_law_holds.nd rfl (Or.inl rfl))) (fun _ _ _ _ _ => dts_nil) (fun _ _ _ _ _ => (de_tup (da_cons (de_var 12) (da_cons (de_var 1) da_nil))))) da_nil)))
          (dss_one (ds_if (dt_not (dt_val (de_call F_u_law_same (hr.mono h_u_law_same) (by rfl) (da_cons (de_call F_join_cut (hr.mono h_join_cut) (by rfl) (da_cons (de_var 6) (da_cons (de_ix hu (de_ix hu (de_var 2) (de_var 7) fun _ _ => rfl) de_int fun _ _ => rfl) da_nil))) (da_cons (de_var 8) da_nil)))))
            (dss_one (ds_ret de_bl))
            dss_nil)))))
        dss_nil)))))
    (dss_one (ds_ret de_bl))))), data⟩

abbrev st_law : Stmt := top 31
def n_law : List Str := ["script", "pool", "letters", "name", "kept", "lap", "corpus", "steps", "two", "ends", "six", "text", "count"]
theorem sc_law : FnScope n_law ["script"] (defScope st_law) := ⟨rfl, rfl, rfl, by decide +kernel, rfl, by decide +kernel, by decide +kernel⟩

theorem mk_law {k : Nat} {sp : DSp} (T : Txt mg) {s_u_law_pool : DSp} {k_u_law_pool : Nat} (F_u_law_pool : Def P w K mg base "_law_pool" k_u_law_pool ["script"] s_u_law_pool) (h_u_law_pool : k_u_law_pool ≤ k) {s_u_law_letters : DSp} {k_u_law_letters : Nat} (F_u_law_letters : Def P w K mg base "_law_letters" k_u_law_letters ["pool", "many"] s_u_law_letters) (h_u_law_letters : k_u_law_letters ≤ k) {s_u_law_draw : DSp} {k_u_law_draw : Nat} (F_u_law_draw : Def P w K mg base "_law_draw" k_u_law_draw ["pool", "many"] s_u_law_draw) (h_u_law_draw : k_u_law_draw ≤ k) {s_u_law_corpus : DSp} {k_u_law_corpus : Nat} (F_u_law_corpus : Def P w K mg base "_law_corpus" k_u_law_corpus ["pool", "letters", "most", "many"] s_u_law_corpus) (h_u_law_corpus : k_u_law_corpus ≤ k) {s_u_law_holds : DSp} {k_u_law_holds : Nat} (F_u_law_holds : Def P w K mg base "_law_holds" k_u_law_holds ["letters", "name", "corpus", "steps"] s_u_law_holds) (h_u_law_holds : k_u_law_holds ≤ k) {s_u_law_trained : DSp} {k_u_law_trained : Nat} (F_u_law_trained : Def P w K mg base "_law_trained" k_u_law_trained ["corpus", "steps"] s_u_law_trained) (h_u_law_trained : k_u_law_trained ≤ k) {s_u_law_wide : DSp} {k_u_law_wide : Nat} (F_u_law_wide : Def P w K mg base "_law_wide" k_u_law_wide ["pool", "letters"] s_u_law_wide) (h_u_law_wide : k_u_law_wide ≤ k) {f : Addr} {fd : FuncData} (F : Fun K "law" "law" st_law f fd) (len : ∀ ds M Q, sp ds M Q → ds.length = 1)
    (data : ∀ ds M Q, sp ds M Q → t_law s_u_law_pool s_u_law_letters s_u_law_draw s_u_law_corpus s_u_law_holds s_u_law_trained s_u_law_wide (endsD M Q) (startD 13 ds) M) : FnOk P w K mg base CX0 (k + 1) f fd ["script"] (toSp ⟨P, w, K⟩ sp) :=
  fd_mk F sc_law len ⟨t_law s_u_law_pool s_u_law_letters s_u_law_draw s_u_law_corpus s_u_law_holds s_u_law_trained s_u_law_wide, fun cdv A outer s H E hr => by
    have hu := hr.units
    have hp := @PassesOwn.never
    exact
    (dss_cons (ds_set (i := 1) sc_law.nd rfl (by first | exact Or.inl rfl | exact Or.inr rfl) (de_call F_u_law_pool (hr.mono h_u_law_pool) (by rfl) (da_cons (de_var 0) da_nil)))
    (dss_cons (ds_set (i := 2) sc_law.nd rfl (by first | exact Or.inl rfl | exact Or.inr rfl) (de_call F_u_law_letters (hr.mono h_u_law_letters) (by rfl) (da_cons (de_var 1) (da_cons (de_ix hu (de_lst (da_cons de_int (da_cons de_int (da_cons de_int (da_cons de_int (da_cons de_int (da_cons de_int da_nil))))))) (de_call F_u_law_draw (hr.mono h_u_law_draw) (by rfl) (da_cons (de_var 1) (da_cons de_int da_nil))) fun _ _ => rfl) da_nil))))
    (dss_cons (ds_set (i := 3) sc_law.nd rfl (by first | exact Or.inl rfl | exact Or.inr rfl) (de_ix hu de_str (de_call F_u_law_draw (hr.mono h_u_law_draw) (by rfl) (da_cons (de_var 1) (da_cons de_int da_nil))) fun _ _ => rfl))
    (dss_cons (ds_set (i := 4) sc_law.nd rfl (by first | exact Or.inl rfl | exact Or.inr rfl) (de_tup da_nil))
    (dss_cons (ds_for hp rfl (di_range1 (by rfl) T.range (da_cons de_int da_nil)) (dg_name (i := 5) sc_law.nd rfl (by first | exact Or.inl rfl | exact Or.inr rfl))
      (dss_cons (ds_set (i := 6) sc_law.nd rfl (by first | exact Or.inl rfl | exact Or.inr rfl) (de_call F_u_law_corpus (hr.mono h_u_law_corpus) (by rfl) (da_cons (de_var 1) (da_cons (de_var 2) (da_cons (de_ix hu (de_lst (da_cons de_int (da_cons de_int (da_cons de_int da_nil)))) (de_var 5) fun _ _ => rfl) (da_cons (de_opX ox_add de_int (de_call F_u_law_draw (hr.mono h_u_law_draw) (by rfl) (da_cons (de_var 1) (da_cons de_int da_nil)))) da_nil))))))
      (dss_cons (ds_set (i := 7) sc_law.nd rfl (by first | exact Or.inl rfl | exact Or.inr rfl) (de_ix hu (de_lst (da_cons de_int (da_cons de_int (da_cons de_int (da_cons de_int da_nil))))) (de_call F_u_law_draw (hr.mono h_u_law_draw) (by rfl) (da_cons (de_var 1) (da_cons de_int da_nil))) fun _ _ => rfl))
      (dss_cons (ds_if (dw_or (dt_not (dt_val (de_call F_u_law_holds (hr.mono h_u_law_holds) (by rfl) (da_cons (de_var 2) (da_cons (de_var 3) (da_cons (de_var 6) (da_cons (de_var 7) da_nil))))))) (dw_or1 (dt_not (dt_val (de_call F_u_law_holds (hr.mono h_u_law_holds) (by rfl) (da_cons (de_var 2) (da_cons (de_var 3) (da_cons (de_var 6) (da_cons (de_call F_u_law_draw (hr.mono h_u_law_draw) (by rfl) (da_cons (de_var 1) (da_cons de_int da_nil))) da_nil))))))))).dt
        (dss_one (ds_ret de_bl))
        dss_nil)
      (dss_one (ds_set (i := 4) sc_law.nd rfl (by first | exact Or.inl rfl | exact Or.inr rfl) (de_var 6)))))))
    (dss_cons (ds_set (i := 8) sc_law.nd rfl (by first | exact Or.inl rfl | exact Or.inr rfl) (de_call F_u_law_letters (hr.mono h_u_law_letters) (by rfl) (da_cons (de_var 1) (da_cons de_int da_nil))))
    (dss_cons (ds_set (i := 9) sc_law.nd rfl (by first | exact Or.inl rfl | exact Or.inr rfl) (de_tup (da_cons (de_tup (da_cons (de_opX ox_mul (de_ix hu (de_var 8) de_int fun _ _ => rfl) de_int) (da_cons de_int da_nil))) (da_cons (de_tup (da_cons (de_var 8) (da_cons de_int da_nil))) (da_cons (de_tup (da_cons (de_opX ox_mul (de_ix hu (de_var 8) de_int fun _ _ => rfl) de_int) (da_cons de_int da_nil))) da_nil)))))
    (dss_cons (ds_if (dt_cmpX (ox_ne hu) rfl (de_ix hu (de_call F_u_law_trained (hr.mono h_u_law_trained) (by rfl) (da_cons (de_var 9) (da_cons de_int da_nil))) de_int fun _ _ => rfl) (de_lst (da_cons (de_tup (da_cons (de_ix hu (de_var 8) de_int fun _ _ => rfl) (da_cons (de_ix hu (de_var 8) de_int fun _ _ => rfl) da_nil))) (da_cons (de_tup (da_cons (de_ix hu (de_var 8) de_int fun _ _ => rfl) (da_cons (de_ix hu (de_var 8) de_int fun _ _ => rfl) da_nil))) (da_cons (de_tup (da_cons (de_ix hu (de_var 8) de_int fun _ _ => rfl) (da_cons (de_ix hu (de_var 8) de_int fun _ _ => rfl) da_nil))) (da_cons (de_tup (da_cons (de_opX ox_mul (de_ix hu (de_var 8) de_int fun _ _ => rfl) de_int) (da_cons (de_ix hu (de_var 8) de_int fun _ _ => rfl) da_nil))) da_nil))))))
      (dss_one (ds_ret de_bl))
      dss_nil)
    (dss_cons (ds_if (dw_or (dt_not (dt_val (de_call F_u_law_holds (hr.mono h_u_law_holds) (by rfl) (da_cons (de_var 8) (da_cons (de_var 3) (da_cons (de_var 9) (da_cons de_int da_nil))))))) (dw_or1 (dt_not (dt_val (de_call F_u_law_holds (hr.mono h_u_law_holds) (by rfl) (da_cons (de_var 8) (da_cons (de_var 3) (da_cons (de_callTy cx_tuple (by rfl) T.tuple (by rfl) (da_cons (de_lc rfl sc_law.nd (di_any (de_var 9)) (own := [("text", 11), ("count", 12)]) (sh := (.many [11, 12])) (blkOk_by (N := n_law) (by first | decide +kernel | kernel_rfl)) (by decide) (fun _ _ _ _ _ => (pg_tup rfl (pgs_cons (pg_name (i := 11) sc_law.nd rfl (Or.inl rfl)) (pgs_cons (pg_name (i := 12) sc_law.nd rfl (Or.inl rfl)) pgs_nil)))) (fun _ _ _ _ _ => dts_nil) (fun _ _ _ _ _ => (de_tup (da_cons (de_var 11) (da_cons de_int da_nil))))) da_nil)) (da_cons de_int da_nil))))))))).dt
      (dss_one (ds_ret de_bl))
      dss_nil)
    (dss_cons (ds_if (dw_or (dt_not (dt_val (de_call F_u_law_holds (hr.mono h_u_law_holds) (by rfl) (da_cons (de_var 8) (da_cons (de_var 3) (da_cons (de_tup da_nil) (da_cons de_int da_nil))))))) (dw_or1 (dt_not (dt_val (de_call F_u_law_holds (hr.mono h_u_law_holds) (by rfl) (da_cons (de_var 8) (da_cons (de_var 3) (da_cons (de_tup (da_cons (de_tup (da_cons (de_opX ox_mul (de_ix hu (de_var 8) de_int fun _ _ => rfl) (de_opX ox_add de_int (de_call F_u_law_draw (hr.mono h_u_law_draw) (by rfl) (da_cons (de_var 1) (da_cons de_int da_nil))))) (da_cons de_int da_nil))) da_nil)) (da_cons de_int da_nil))))))))).dt
      (dss_one (ds_ret de_bl))
      dss_nil)
    (dss_cons (ds_if (dt_cmpX (ox_eq hu) rfl (de_call F_u_law_draw (hr.mono h_u_law_draw) (by rfl) (da_cons (de_var 1) (da_cons de_int da_nil))) de_int)
      (dss_cons (ds_set (i := 10) sc_law.nd rfl (by first | exact Or.inl rfl | exact Or.inr rfl) (de_call F_u_law_letters (hr.mono h_u_law_letters) (by rfl) (da_cons (de_var 1) (da_cons (de_opX ox_add de_int (de_call F_u_law_draw (hr.mono h_u_law_draw) (by rfl) (da_cons (de_var 1) (da_cons de_int da_nil)))) da_nil))))
      (dss_one (ds_if (dt_not (dt_val (de_call F_u_law_holds (hr.mono h_u_law_holds) (by rfl) (da_cons (de_var 10) (da_cons (de_var 3) (da_cons (de_call F_u_law_wide (hr.mono h_u_law_wide) (by rfl) (da_cons (de_var 1) (da_cons (de_var 10) da_nil))) (da_cons de_int da_nil)))))))
        (dss_one (ds_ret de_bl))
        dss_nil)))
      dss_nil)
    (dss_one (ds_ret (de_call F_u_law_holds (hr.mono h_u_law_holds) (by rfl) (da_cons (de_var 2) (da_cons (de_var 3) (da_cons (de_var 4) (da_cons de_int da_nil)))))))))))))))))), data⟩

end
end K

set_option Elab.async false
set_option linter.all false
set_option maxRecDepth 100000
set_option maxHeartbeats 4000000
/-! printed by gen.py: the end -/
namespace K
open PySem L2 DL
open PyProof.Rows hiding St signs inR

def spLaw (K : PySem.W.Frag) : Sp := fun vs H Q _ => ∃ (a : Addr) (ns : List Int), vs = [.ref a] ∧ SqL K H a (ns.map V.int) ∧ ns.length ≤ 63 ∧ ∀ H', Q (.bl true) H'
theorem law_sp {b : Bg} (vs : List V) (H : Hp) (Q : VK) (E : XK) (h : spLaw b.K vs H Q E) : toSp b sp_law vs H Q E := by
  obtain ⟨a, ns, rfl, hs, hl, q⟩ := h
  refine ⟨⟨H, [], []⟩, [.lst (ns.map D.int)], [], fun d _ => d = .bl true, ⟨fun _ _ e => e, rfl, List.nodup_nil, fun n a o e => by simp at e, fun q hq => by cases hq⟩, .cons (.lst hs (by simp) fun i d v e1 e2 => ?_) .nil, ⟨ns, rfl, hl, rfl, fun _ => rfl⟩, fun d M' e w' v H' _ _ r => ?_⟩
  · rw [List.getElem?_map] at e1 e2
    cases en : ns[i]? with
    | none =>
      rw [en] at e1
      cases e1
    | some n =>
      rw [en] at e1 e2
      cases e1
      cases e2
      exact .int n
  · subst e
    cases r
    exact q H'
theorem def_never {P : Program} {w : World} {K : PySem.W.Frag} {mg : Str → Option Value} {base : Heap} {x : Str} {ps : List Str} {f : Addr} {fd : FuncData} (hm : mg x = some (.ref f)) (hk : PySem.W.keepIn K (.ref f) = true) (hb : Binds K fd ps []) {sp : DSp} (no : ∀ ds M Q, ¬ sp ds M Q) :
    Def P w K mg base x 0 ps sp := ⟨f, fd, hm, hk, hb, ⟨fun vs H Q E ⟨_, ds, M, Q', _, _, q, _⟩ => (no ds M Q' q).elim, fun A outer s H args us vs Q E _ _ _ _ ⟨_, ds, M, Q', _, _, q, _⟩ => (no ds M Q' q).elim⟩⟩

theorem all_mk {l : PySem.W.OpenLaw} {w : World} {K : PySem.W.Frag} {h : Heap} {mg : Str → Option Value} {fa CSeamError f1 f2 f3 f4 f5 f6 f7 f8 f9 f10 f11 f12 f13 f14 f15 f16 f17 f18 f19 f20 f21 f22 f23 f24 : Addr} (X : K.In h) (G : h.Ns mainGlobals mg) (hfa : mg "law" = some (.ref fa))
    {od1 an1 od2 an2 od3 an3 od4 an4 od5 an5 od6 an6 od7 an7 od8 an8 od9 an9 od10 an10 od11 an11 od12 an12 od13 an13 od14 an14 od15 an15 od16 an16 od17 an17 od18 an18 od19 an19 od20 an20 od21 an21 od22 an22 od23 an23 od24 an24 : Option Addr} {sl1 sl2 sl3 sl4 sl5 sl6 sl7 sl8 sl9 sl10 sl11 sl12 sl13 sl14 sl15 sl16 sl17 sl18 sl19 sl20 sl21 sl22 sl23 sl24 : Array (Option Value)} {oc1 kV1 dc1 pm1 cd1 ct1 oc2 kV2 dc2 pm2 cd2 ct2 oc3 kV3 dc3 pm3 cd3 ct3 oc4 kV4 dc4 pm4 cd4 ct4 oc5 kV5 dc5 pm5 cd5 ct5 oc6 kV6 dc6 pm6 cd6 ct6 oc7 kV7 dc7 pm7 cd7 ct7 oc8 kV8 dc8 pm8 cd8 ct8 oc9 kV9 dc9 pm9 cd9 ct9 oc10 kV10 dc10 pm10 cd10 ct10 oc11 kV11 dc11 pm11 cd11 ct11 oc12 kV12 dc12 pm12 cd12 ct12 oc13 kV13 dc13 pm13 cd13 ct13 oc14 kV14 dc14 pm14 cd14 ct14 oc15 kV15 dc15 pm15 cd15 ct15 oc16 kV16 dc16 pm16 cd16 ct16 oc17 kV17 dc17 pm17 cd17 ct17 oc18 kV18 dc18 pm18 cd18 ct18 oc19 kV19 dc19 pm19 cd19 ct19 oc20 kV20 dc20 pm20 cd20 ct20 oc21 kV21 dc21 pm21 cd21 ct21 oc22 kV22 dc22 pm22 cd22 ct22 oc23 kV23 dc23 pm23 cd23 ct23 oc24 kV24 dc24 pm24 cd24 ct24 : Value}
    (aCSeamError : PySem.W.nsIn K mainGlobals "SeamError" = some (some (.ref CSeamError)))
    (a1 : PySem.W.nsIn K mainGlobals "need_kind" = some (some (.ref f1))) (l1 : K.lookup f1 = some ⟨oc1, od1, .func (PySem.W.fnOf "need_kind" "need_kind" (defArgs st_need_kind) (defBody st_need_kind) (defScope st_need_kind) .none kV1 dc1 pm1 an1 cd1 ct1), sl1⟩) (c1 : PySem.W.codeIn K cd1 "need_kind" = true) (k1 : PySem.W.keepIn K (.ref f1) = true)
    (a2 : PySem.W.nsIn K mainGlobals "joined_once" = some (some (.ref f2))) (l2 : K.lookup f2 = some ⟨oc2, od2, .func (PySem.W.fnOf "joined_once" "joined_once" (defArgs st_joined_once) (defBody st_joined_once) (defScope st_joined_once) .none kV2 dc2 pm2 an2 cd2 ct2), sl2⟩) (c2 : PySem.W.codeIn K cd2 "joined_once" = true) (k2 : PySem.W.keepIn K (.ref f2) = true)
    (a3 : PySem.W.nsIn K mainGlobals "joined_pieces" = some (some (.ref f3))) (l3 : K.lookup f3 = some ⟨oc3, od3, .func (PySem.W.fnOf "joined_pieces" "joined_pieces" (defArgs st_joined_pieces) (defBody st_joined_pieces) (defScope st_joined_pieces) .none kV3 dc3 pm3 an3 cd3 ct3), sl3⟩) (c3 : PySem.W.codeIn K cd3 "joined_pieces" = true) (k3 : PySem.W.keepIn K (.ref f3) = true)
    (a4 : PySem.W.nsIn K mainGlobals "piece_names" = some (some (.ref f4))) (l4 : K.lookup f4 = some ⟨oc4, od4, .func (PySem.W.fnOf "piece_names" "piece_names" (defArgs st_piece_names) (defBody st_piece_names) (defScope st_piece_names) .none kV4 dc4 pm4 an4 cd4 ct4), sl4⟩) (c4 : PySem.W.codeIn K cd4 "piece_names" = true) (k4 : PySem.W.keepIn K (.ref f4) = true)
    (a5 : PySem.W.nsIn K mainGlobals "join_cut" = some (some (.ref f5))) (l5 : K.lookup f5 = some ⟨oc5, od5, .func (PySem.W.fnOf "join_cut" "join_cut" (defArgs st_join_cut) (defBody st_join_cut) (defScope st_join_cut) .none kV5 dc5 pm5 an5 cd5 ct5), sl5⟩) (c5 : PySem.W.codeIn K cd5 "join_cut" = true) (k5 : PySem.W.keepIn K (.ref f5) = true)
    (a6 : PySem.W.nsIn K mainGlobals "pair_counts" = some (some (.ref f6))) (l6 : K.lookup f6 = some ⟨oc6, od6, .func (PySem.W.fnOf "pair_counts" "pair_counts" (defArgs st_pair_counts) (defBody st_pair_counts) (defScope st_pair_counts) .none kV6 dc6 pm6 an6 cd6 ct6), sl6⟩) (c6 : PySem.W.codeIn K cd6 "pair_counts" = true) (k6 : PySem.W.keepIn K (.ref f6) = true)
    (a7 : PySem.W.nsIn K mainGlobals "chosen_pair" = some (some (.ref f7))) (l7 : K.lookup f7 = some ⟨oc7, od7, .func (PySem.W.fnOf "chosen_pair" "chosen_pair" (defArgs st_chosen_pair) (defBody st_chosen_pair) (defScope st_chosen_pair) .none kV7 dc7 pm7 an7 cd7 ct7), sl7⟩) (c7 : PySem.W.codeIn K cd7 "chosen_pair" = true) (k7 : PySem.W.keepIn K (.ref f7) = true)
    (a8 : PySem.W.nsIn K mainGlobals "trained_steps" = some (some (.ref f8))) (l8 : K.lookup f8 = some ⟨oc8, od8, .func (PySem.W.fnOf "trained_steps" "trained_steps" (defArgs st_trained_steps) (defBody st_trained_steps) (defScope st_trained_steps) .none kV8 dc8 pm8 an8 cd8 ct8), sl8⟩) (c8 : PySem.W.codeIn K cd8 "trained_steps" = true) (k8 : PySem.W.keepIn K (.ref f8) = true)
    (a9 : PySem.W.nsIn K mainGlobals "train_joins" = some (some (.ref f9))) (l9 : K.lookup f9 = some ⟨oc9, od9, .func (PySem.W.fnOf "train_joins" "train_joins" (defArgs st_train_joins) (defBody st_train_joins) (defScope st_train_joins) .none kV9 dc9 pm9 an9 cd9 ct9), sl9⟩) (c9 : PySem.W.codeIn K cd9 "train_joins" = true) (k9 : PySem.W.keepIn K (.ref f9) = true)
    (a10 : PySem.W.nsIn K mainGlobals "train_log" = some (some (.ref f10))) (l10 : K.lookup f10 = some ⟨oc10, od10, .func (PySem.W.fnOf "train_log" "train_log" (defArgs st_train_log) (defBody st_train_log) (defScope st_train_log) .none kV10 dc10 pm10 an10 cd10 ct10), sl10⟩) (c10 : PySem.W.codeIn K cd10 "train_log" = true) (k10 : PySem.W.keepIn K (.ref f10) = true)
    (a11 : PySem.W.nsIn K mainGlobals "_law_pool" = some (some (.ref f11))) (l11 : K.lookup f11 = some ⟨oc11, od11, .func (PySem.W.fnOf "_law_pool" "_law_pool" (defArgs st_u_law_pool) (defBody st_u_law_pool) (defScope st_u_law_pool) .none kV11 dc11 pm11 an11 cd11 ct11), sl11⟩) (c11 : PySem.W.codeIn K cd11 "_law_pool" = true) (k11 : PySem.W.keepIn K (.ref f11) = true)
    (a12 : PySem.W.nsIn K mainGlobals "_law_draw" = some (some (.ref f12))) (l12 : K.lookup f12 = some ⟨oc12, od12, .func (PySem.W.fnOf "_law_draw" "_law_draw" (defArgs st_u_law_draw) (defBody st_u_law_draw) (defScope st_u_law_draw) .none kV12 dc12 pm12 an12 cd12 ct12), sl12⟩) (c12 : PySem.W.codeIn K cd12 "_law_draw" = true) (k12 : PySem.W.keepIn K (.ref f12) = true)
    (a13 : PySem.W.nsIn K mainGlobals "_law_letters" = some (some (.ref f13))) (l13 : K.lookup f13 = some ⟨oc13, od13, .func (PySem.W.fnOf "_law_letters" "_law_letters" (defArgs st_u_law_letters) (defBody st_u_law_letters) (defScope st_u_law_letters) .none kV13 dc13 pm13 an13 cd13 ct13), sl13⟩) (c13 : PySem.W.codeIn K cd13 "_law_letters" = true) (k13 : PySem.W.keepIn K (.ref f13) = true)
    (a14 : PySem.W.nsIn K mainGlobals "_law_word" = some (some (.ref f14))) (l14 : K.lookup f14 = some ⟨oc14, od14, .func (PySem.W.fnOf "_law_word" "_law_word" (defArgs st_u_law_word) (defBody st_u_law_word) (defScope st_u_law_word) .none kV14 dc14 pm14 an14 cd14 ct14), sl14⟩) (c14 : PySem.W.codeIn K cd14 "_law_word" = true) (k14 : PySem.W.keepIn K (.ref f14) = true)
    (a15 : PySem.W.nsIn K mainGlobals "_law_count" = some (some (.ref f15))) (l15 : K.lookup f15 = some ⟨oc15, od15, .func (PySem.W.fnOf "_law_count" "_law_count" (defArgs st_u_law_count) (defBody st_u_law_count) (defScope st_u_law_count) .none kV15 dc15 pm15 an15 cd15 ct15), sl15⟩) (c15 : PySem.W.codeIn K cd15 "_law_count" = true) (k15 : PySem.W.keepIn K (.ref f15) = true)
    (a16 : PySem.W.nsIn K mainGlobals "_law_corpus" = some (some (.ref f16))) (l16 : K.lookup f16 = some ⟨oc16, od16, .func (PySem.W.fnOf "_law_corpus" "_law_corpus" (defArgs st_u_law_corpus) (defBody st_u_law_corpus) (defScope st_u_law_corpus) .none kV16 dc16 pm16 an16 cd16 ct16), sl16⟩) (c16 : PySem.W.codeIn K cd16 "_law_corpus" = true) (k16 : PySem.W.keepIn K (.ref f16) = true)
    (a17 : PySem.W.nsIn K mainGlobals "_law_wide" = some (some (.ref f17))) (l17 : K.lookup f17 = some ⟨oc17, od17, .func (PySem.W.fnOf "_law_wide" "_law_wide" (defArgs st_u_law_wide) (defBody st_u_law_wide) (defScope st_u_law_wide) .none kV17 dc17 pm17 an17 cd17 ct17), sl17⟩) (c17 : PySem.W.codeIn K cd17 "_law_wide" = true) (k17 : PySem.W.keepIn K (.ref f17) = true)
    (a18 : PySem.W.nsIn K mainGlobals "_law_counts" = some (some (.ref f18))) (l18 : K.lookup f18 = some ⟨oc18, od18, .func (PySem.W.fnOf "_law_counts" "_law_counts" (defArgs st_u_law_counts) (defBody st_u_law_counts) (defScope st_u_law_counts) .none kV18 dc18 pm18 an18 cd18 ct18), sl18⟩) (c18 : PySem.W.codeIn K cd18 "_law_counts" = true) (k18 : PySem.W.keepIn K (.ref f18) = true)
    (a19 : PySem.W.nsIn K mainGlobals "_law_joined" = some (some (.ref f19))) (l19 : K.lookup f19 = some ⟨oc19, od19, .func (PySem.W.fnOf "_law_joined" "_law_joined" (defArgs st_u_law_joined) (defBody st_u_law_joined) (defScope st_u_law_joined) .none kV19 dc19 pm19 an19 cd19 ct19), sl19⟩) (c19 : PySem.W.codeIn K cd19 "_law_joined" = true) (k19 : PySem.W.keepIn K (.ref f19) = true)
    (a20 : PySem.W.nsIn K mainGlobals "_law_trained" = some (some (.ref f20))) (l20 : K.lookup f20 = some ⟨oc20, od20, .func (PySem.W.fnOf "_law_trained" "_law_trained" (defArgs st_u_law_trained) (defBody st_u_law_trained) (defScope st_u_law_trained) .none kV20 dc20 pm20 an20 cd20 ct20), sl20⟩) (c20 : PySem.W.codeIn K cd20 "_law_trained" = true) (k20 : PySem.W.keepIn K (.ref f20) = true)
    (a21 : PySem.W.nsIn K mainGlobals "_law_same" = some (some (.ref f21))) (l21 : K.lookup f21 = some ⟨oc21, od21, .func (PySem.W.fnOf "_law_same" "_law_same" (defArgs st_u_law_same) (defBody st_u_law_same) (defScope st_u_law_same) .none kV21 dc21 pm21 an21 cd21 ct21), sl21⟩) (c21 : PySem.W.codeIn K cd21 "_law_same" = true) (k21 : PySem.W.keepIn K (.ref f21) = true)
    (a22 : PySem.W.nsIn K mainGlobals "_law_log_right" = some (some (.ref f22))) (l22 : K.lookup f22 = some ⟨oc22, od22, .func (PySem.W.fnOf "_law_log_right" "_law_log_right" (defArgs st_u_law_log_right) (defBody st_u_law_log_right) (defScope st_u_law_log_right) .none kV22 dc22 pm22 an22 cd22 ct22), sl22⟩) (c22 : PySem.W.codeIn K cd22 "_law_log_right" = true) (k22 : PySem.W.keepIn K (.ref f22) = true)
    (a23 : PySem.W.nsIn K mainGlobals "_law_holds" = some (some (.ref f23))) (l23 : K.lookup f23 = some ⟨oc23, od23, .func (PySem.W.fnOf "_law_holds" "_law_holds" (defArgs st_u_law_holds) (defBody st_u_law_holds) (defScope st_u_law_holds) .none kV23 dc23 pm23 an23 cd23 ct23), sl23⟩) (c23 : PySem.W.codeIn K cd23 "_law_holds" = true) (k23 : PySem.W.keepIn K (.ref f23) = true)
    (a24 : PySem.W.nsIn K mainGlobals "law" = some (some (.ref f24))) (l24 : K.lookup f24 = some ⟨oc24, od24, .func (PySem.W.fnOf "law" "law" (defArgs st_law) (defBody st_law) (defScope st_law) .none kV24 dc24 pm24 an24 cd24 ct24), sl24⟩) (c24 : PySem.W.codeIn K cd24 "law" = true) (k24 : PySem.W.keepIn K (.ref f24) = true)
    (zabs : PySem.W.nsIn K mainGlobals "abs" = some none)
    (zbool : PySem.W.nsIn K mainGlobals "bool" = some none)
    (zint : PySem.W.nsIn K mainGlobals "int" = some none)
    (zisinstance : PySem.W.nsIn K mainGlobals "isinstance" = some none)
    (zlen : PySem.W.nsIn K mainGlobals "len" = some none)
    (zlist : PySem.W.nsIn K mainGlobals "list" = some none)
    (zmin : PySem.W.nsIn K mainGlobals "min" = some none)
    (zrange : PySem.W.nsIn K mainGlobals "range" = some none)
    (zset : PySem.W.nsIn K mainGlobals "set" = some none)
    (zsorted : PySem.W.nsIn K mainGlobals "sorted" = some none)
    (zstr : PySem.W.nsIn K mainGlobals "str" = some none)
    (ztuple : PySem.W.nsIn K mainGlobals "tuple" = some none)
    (zzip : PySem.W.nsIn K mainGlobals "zip" = some none)
    : ∃ fd : FuncData, (∀ (s : Shared) (v : Value), BindsTo s fd ⟨[v], []⟩ [("script", v)]) ∧ ∀ base : Heap, K.In base → base.Ns mainGlobals mg → FnOk l.prog w K mg base CX0 7 fa fd ["script"] (spLaw K) := by
  have e := hfa.symm.trans (PySem.W.mg_of X G a24)
  cases e
  have T : Txt mg := ⟨PySem.W.mg_none_of X G zabs, PySem.W.mg_none_of X G zbool, PySem.W.mg_none_of X G zint, PySem.W.mg_none_of X G zisinstance, PySem.W.mg_none_of X G zlen, PySem.W.mg_none_of X G zlist, PySem.W.mg_none_of X G zmin, PySem.W.mg_none_of X G zrange, PySem.W.mg_none_of X G zset, PySem.W.mg_none_of X G zsorted, PySem.W.mg_none_of X G zstr, PySem.W.mg_none_of X G ztuple, PySem.W.mg_none_of X G zzip⟩
  have F1 := fun_mk (st := st_need_kind) l1 c1 k1
  have b1 := F1.binds (ps := ["cutter", "kind"]) fun _ _ _ _ _ _ us hl => match us, hl with | [_, _], _ => rfl
  have F2 := fun_mk (st := st_joined_once) l2 c2 k2
  have b2 := F2.binds (ps := ["pieces", "left", "right"]) fun _ _ _ _ _ _ us hl => match us, hl with | [_, _, _], _ => rfl
  have F3 := fun_mk (st := st_joined_pieces) l3 c3 k3
  have b3 := F3.binds (ps := ["rules", "text"]) fun _ _ _ _ _ _ us hl => match us, hl with | [_, _], _ => rfl
  have F4 := fun_mk (st := st_piece_names) l4 c4 k4
  have b4 := F4.binds (ps := ["joins"]) fun _ _ _ _ _ _ us hl => match us, hl with | [_], _ => rfl
  have F5 := fun_mk (st := st_join_cut) l5 c5 k5
  have b5 := F5.binds (ps := ["joins", "text"]) fun _ _ _ _ _ _ us hl => match us, hl with | [_, _], _ => rfl
  have F6 := fun_mk (st := st_pair_counts) l6 c6 k6
  have b6 := F6.binds (ps := ["rows", "counts", "taken"]) fun _ _ _ _ _ _ us hl => match us, hl with | [_, _, _], _ => rfl
  have F7 := fun_mk (st := st_chosen_pair) l7 c7 k7
  have b7 := F7.binds (ps := ["found"]) fun _ _ _ _ _ _ us hl => match us, hl with | [_], _ => rfl
  have F8 := fun_mk (st := st_trained_steps) l8 c8 k8
  have b8 := F8.binds (ps := ["corpus", "steps"]) fun _ _ _ _ _ _ us hl => match us, hl with | [_, _], _ => rfl
  have F9 := fun_mk (st := st_train_joins) l9 c9 k9
  have b9 := F9.binds (ps := ["letters", "name", "corpus", "steps"]) fun _ _ _ _ _ _ us hl => match us, hl with | [_, _, _, _], _ => rfl
  have F10 := fun_mk (st := st_train_log) l10 c10 k10
  have b10 := F10.binds (ps := ["letters", "corpus", "steps"]) fun _ _ _ _ _ _ us hl => match us, hl with | [_, _, _], _ => rfl
  have F11 := fun_mk (st := st_u_law_pool) l11 c11 k11
  have b11 := F11.binds (ps := ["script"]) fun _ _ _ _ _ _ us hl => match us, hl with | [_], _ => rfl
  have F12 := fun_mk (st := st_u_law_draw) l12 c12 k12
  have b12 := F12.binds (ps := ["pool", "many"]) fun _ _ _ _ _ _ us hl => match us, hl with | [_, _], _ => rfl
  have F13 := fun_mk (st := st_u_law_letters) l13 c13 k13
  have b13 := F13.binds (ps := ["pool", "many"]) fun _ _ _ _ _ _ us hl => match us, hl with | [_, _], _ => rfl
  have F14 := fun_mk (st := st_u_law_word) l14 c14 k14
  have b14 := F14.binds (ps := ["pool", "letters", "most"]) fun _ _ _ _ _ _ us hl => match us, hl with | [_, _, _], _ => rfl
  have F15 := fun_mk (st := st_u_law_count) l15 c15 k15
  have b15 := F15.binds (ps := ["pool", "same"]) fun _ _ _ _ _ _ us hl => match us, hl with | [_, _], _ => rfl
  have F16 := fun_mk (st := st_u_law_corpus) l16 c16 k16
  have b16 := F16.binds (ps := ["pool", "letters", "most", "many"]) fun _ _ _ _ _ _ us hl => match us, hl with | [_, _, _, _], _ => rfl
  have F17 := fun_mk (st := st_u_law_wide) l17 c17 k17
  have b17 := F17.binds (ps := ["pool", "letters"]) fun _ _ _ _ _ _ us hl => match us, hl with | [_, _], _ => rfl
  have F18 := fun_mk (st := st_u_law_counts) l18 c18 k18
  have b18 := F18.binds (ps := ["lines", "joined"]) fun _ _ _ _ _ _ us hl => match us, hl with | [_, _], _ => rfl
  have F19 := fun_mk (st := st_u_law_joined) l19 c19 k19
  have b19 := F19.binds (ps := ["pieces", "pair"]) fun _ _ _ _ _ _ us hl => match us, hl with | [_, _], _ => rfl
  have F20 := fun_mk (st := st_u_law_trained) l20 c20 k20
  have b20 := F20.binds (ps := ["corpus", "steps"]) fun _ _ _ _ _ _ us hl => match us, hl with | [_, _], _ => rfl
  have F21 := fun_mk (st := st_u_law_same) l21 c21 k21
  have b21 := F21.binds (ps := ["told", "due"]) fun _ _ _ _ _ _ us hl => match us, hl with | [_, _], _ => rfl
  have F22 := fun_mk (st := st_u_law_log_right) l22 c22 k22
  have b22 := F22.binds (ps := ["letters", "corpus", "steps", "rules"]) fun _ _ _ _ _ _ us hl => match us, hl with | [_, _, _, _], _ => rfl
  have F23 := fun_mk (st := st_u_law_holds) l23 c23 k23
  have b23 := F23.binds (ps := ["letters", "name", "corpus", "steps"]) fun _ _ _ _ _ _ us hl => match us, hl with | [_, _, _, _], _ => rfl
  have F24 := fun_mk (st := st_law) l24 c24 k24
  refine ⟨PySem.W.fnOf "law" "law" (defArgs st_law) (defBody st_law) (defScope st_law) .none kV24 dc24 pm24 an24 cd24 ct24, fun s v => .of_eq rfl, fun base _ _ => ?_⟩
  have D_need_kind : Def l.prog w K mg base "need_kind" 1 ["cutter", "kind"] sp_need_kind := ⟨f1, _, PySem.W.mg_of X G a1, k1, b1, mk_need_kind T F1 len_need_kind dat_need_kind⟩
  have D_joined_once : Def l.prog w K mg base "joined_once" 1 ["pieces", "left", "right"] sp_joined_once := ⟨f2, _, PySem.W.mg_of X G a2, k2, b2, mk_joined_once T F2 len_joined_once dat_joined_once⟩
  have D_piece_names : Def l.prog w K mg base "piece_names" 1 ["joins"] sp_piece_names := ⟨f4, _, PySem.W.mg_of X G a4, k4, b4, mk_piece_names T F4 len_piece_names dat_piece_names⟩
  have D_pair_counts : Def l.prog w K mg base "pair_counts" 1 ["rows", "counts", "taken"] sp_pair_counts := ⟨f6, _, PySem.W.mg_of X G a6, k6, b6, mk_pair_counts T F6 len_pair_counts dat_pair_counts⟩
  have D_chosen_pair : Def l.prog w K mg base "chosen_pair" 1 ["found"] sp_chosen_pair := ⟨f7, _, PySem.W.mg_of X G a7, k7, b7, mk_chosen_pair T F7 len_chosen_pair dat_chosen_pair⟩
  have D_u_law_pool : Def l.prog w K mg base "_law_pool" 1 ["script"] sp_u_law_pool := ⟨f11, _, PySem.W.mg_of X G a11, k11, b11, mk_u_law_pool T F11 len_u_law_pool dat_u_law_pool⟩
  have D_u_law_draw : Def l.prog w K mg base "_law_draw" 1 ["pool", "many"] sp_u_law_draw := ⟨f12, _, PySem.W.mg_of X G a12, k12, b12, mk_u_law_draw T F12 len_u_law_draw dat_u_law_draw⟩
  have D_u_law_counts : Def l.prog w K mg base "_law_counts" 1 ["lines", "joined"] sp_u_law_counts := ⟨f18, _, PySem.W.mg_of X G a18, k18, b18, mk_u_law_counts T F18 len_u_law_counts dat_u_law_counts⟩
  have D_u_law_joined : Def l.prog w K mg base "_law_joined" 1 ["pieces", "pair"] sp_u_law_joined := ⟨f19, _, PySem.W.mg_of X G a19, k19, b19, mk_u_law_joined T F19 len_u_law_joined dat_u_law_joined⟩
  have D_joined_pieces : Def l.prog w K mg base "joined_pieces" 2 ["rules", "text"] sp_joined_pieces := ⟨f3, _, PySem.W.mg_of X G a3, k3, b3, mk_joined_pieces T D_joined_once (by decide) F3 len_joined_pieces dat_joined_pieces⟩
  have D_trained_steps : Def l.prog w K mg base "trained_steps" 2 ["corpus", "steps"] sp_trained_steps := ⟨f8, _, PySem.W.mg_of X G a8, k8, b8, mk_trained_steps T D_pair_counts (by decide) D_chosen_pair (by decide) D_joined_once (by decide) F8 len_trained_steps dat_trained_steps⟩
  have D_u_law_letters : Def l.prog w K mg base "_law_letters" 2 ["pool", "many"] sp_u_law_letters := ⟨f13, _, PySem.W.mg_of X G a13, k13, b13, mk_u_law_letters T D_u_law_draw (by decide) F13 len_u_law_letters dat_u_law_letters⟩
  have D_u_law_word : Def l.prog w K mg base "_law_word" 2 ["pool", "letters", "most"] sp_u_law_word := ⟨f14, _, PySem.W.mg_of X G a14, k14, b14, mk_u_law_word T D_u_law_draw (by decide) F14 len_u_law_word dat_u_law_word⟩
  have D_u_law_count : Def l.prog w K mg base "_law_count" 2 ["pool", "same"] sp_u_law_count := ⟨f15, _, PySem.W.mg_of X G a15, k15, b15, mk_u_law_count T D_u_law_draw (by decide) F15 len_u_law_count dat_u_law_count⟩
  have D_u_law_wide : Def l.prog w K mg base "_law_wide" 2 ["pool", "letters"] sp_u_law_wide := ⟨f17, _, PySem.W.mg_of X G a17, k17, b17, mk_u_law_wide T D_u_law_draw (by decide) F17 len_u_law_wide dat_u_law_wide⟩
  have D_u_law_trained : Def l.prog w K mg base "_law_trained" 2 ["corpus", "steps"] sp_u_law_trained := ⟨f20, _, PySem.W.mg_of X G a20, k20, b20, mk_u_law_trained T D_u_law_counts (by decide) D_u_law_joined (by decide) F20 len_u_law_trained dat_u_law_trained⟩
  have D_join_cut : Def l.prog w K mg base "join_cut" 3 ["joins", "text"] sp_join_cut := ⟨f5, _, PySem.W.mg_of X G a5, k5, b5, mk_join_cut T D_need_kind (by decide) D_piece_names (by decide) D_joined_pieces (by decide) F5 len_join_cut dat_join_cut⟩
  have D_train_joins : Def l.prog w K mg base "train_joins" 3 ["letters", "name", "corpus", "steps"] sp_train_joins := ⟨f9, _, PySem.W.mg_of X G a9, k9, b9, mk_train_joins T D_trained_steps (by decide) F9 len_train_joins dat_train_joins⟩
  have D_train_log : Def l.prog w K mg base "train_log" 3 ["letters", "corpus", "steps"] sp_train_log := ⟨f10, _, PySem.W.mg_of X G a10, k10, b10, mk_train_log T D_trained_steps (by decide) F10 len_train_log dat_train_log⟩
  have D_u_law_corpus : Def l.prog w K mg base "_law_corpus" 3 ["pool", "letters", "most", "many"] sp_u_law_corpus := ⟨f16, _, PySem.W.mg_of X G a16, k16, b16, mk_u_law_corpus T D_u_law_word (by decide) D_u_law_draw (by decide) D_u_law_count (by decide) F16 len_u_law_corpus dat_u_law_corpus⟩
  have D_u_law_same_0 : Def l.prog w K mg base "_law_same" 0 ["told", "due"] (sp_u_law_same 0) := def_never (PySem.W.mg_of X G a21) k21 b21 no_u_law_same
  have D_u_law_same_1 : Def l.prog w K mg base "_law_same" 1 ["told", "due"] (sp_u_law_same 1) := ⟨f21, _, PySem.W.mg_of X G a21, k21, b21, mk_u_law_same T D_u_law_same_0 (by decide) F21 (len_u_law_same 1) (dat_u_law_same 0)⟩
  have D_u_law_same_2 : Def l.prog w K mg base "_law_same" 2 ["told", "due"] (sp_u_law_same 2) := ⟨f21, _, PySem.W.mg_of X G a21, k21, b21, mk_u_law_same T D_u_law_same_1 (by decide) F21 (len_u_law_same 2) (dat_u_law_same 1)⟩
  have D_u_law_same_3 : Def l.prog w K mg base "_law_same" 3 ["told", "due"] (sp_u_law_same 3) := ⟨f21, _, PySem.W.mg_of X G a21, k21, b21, mk_u_law_same T D_u_law_same_2 (by decide) F21 (len_u_law_same 3) (dat_u_law_same 2)⟩
  have D_u_law_same_4 : Def l.prog w K mg base "_law_same" 4 ["told", "due"] (sp_u_law_same 4) := ⟨f21, _, PySem.W.mg_of X G a21, k21, b21, mk_u_law_same T D_u_law_same_3 (by decide) F21 (len_u_law_same 4) (dat_u_law_same 3)⟩
  have D_u_law_log_right : Def l.prog w K mg base "_law_log_right" 5 ["letters", "corpus", "steps", "rules"] sp_u_law_log_right := ⟨f22, _, PySem.W.mg_of X G a22, k22, b22, mk_u_law_log_right T D_train_log (by decide) D_u_law_same_4 (by decide) F22 len_u_law_log_right dat_u_law_log_right⟩
  have D_u_law_holds : Def l.prog w K mg base "_law_holds" 6 ["letters", "name", "corpus", "steps"] sp_u_law_holds := ⟨f23, _, PySem.W.mg_of X G a23, k23, b23, mk_u_law_holds T D_u_law_trained (by decide) D_u_law_same_4 (by decide) D_train_joins (by decide) D_u_law_log_right (by decide) D_join_cut (by decide) (PySem.W.mg_of X G aCSeamError) F23 len_u_law_holds dat_u_law_holds⟩
  exact (mk_law (k := 6) T D_u_law_pool (by decide) D_u_law_letters (by decide) D_u_law_draw (by decide) D_u_law_corpus (by decide) D_u_law_holds (by decide) D_u_law_trained (by decide) D_u_law_wide (by decide) F24 len_law dat_law).imp (law_sp (b := ⟨l.prog, w, K⟩))

theorem walk {l : PySem.W.OpenLaw} {q : Program} {loose : List Str} {XP : (Str → Option Value) → Heap → Prop} {YP : World → Heap → Prop} {d : DefRec} {K : Params → PySem.W.Frag} (hn : l.most = some 63) (hdf : d.params.defaults = [])
    (hY : ∀ (w : World) (h : Heap), YP w h → (K w.params).In h)
    (F : ∀ (w : World) (mg : Str → Option Value) (fa : Addr) (h : Heap), (K w.params).In h → h.Ns mainGlobals mg → mg d.name = some (.ref fa) →
      ∃ fd : FuncData, (∀ (s : Shared) (u : Value), BindsTo s fd ⟨[u], []⟩ [("script", u)]) ∧ ∀ base : Heap, (K w.params).In base → base.Ns mainGlobals mg → FnOk l.prog w (K w.params) mg base CX0 7 fa fd ["script"] (spLaw (K w.params))) :
    PySem.W.WalkO q loose XP YP l.row.toRowW d [] (fun f vs => PySem.call f vs) :=
  L2.walk_of (n := 63) (k := 7) (x := "script") (CX := fun _ => CX0) (sp := fun w => spLaw (K w.params)) hn (by decide) hdf ⟨rfl, by decide, by decide⟩ hY F (fun _ _ a ns hl _ hS => ⟨a, ns, rfl, hS, hl, fun _ => rfl⟩) fun _ _ _ _ _ z => z
end K
open PySem PySem.W PyProof.Rows
set_option maxRecDepth 100000 in
set_option maxHeartbeats 0 in
theorem PySem.Challenge.cw_seamsight_k87_whole_training_holds : PySem.Challenge.rw_seamsight_k87_whole_training.Holds := by
  w_on; o_law; k_head; (case hw => w_witness2)
  k_fill
  refine K.walk (l := PySem.Challenge.rw_seamsight_k87_whole_training) rfl rfl (fun w h Y => PySem.W.kIn_of Y) ?F
  case F =>
    intro w mg fa h KX G hmg
    refine' K.all_mk KX G hmg ?aCSeamError ?a1 ?l1 ?c1 ?k1 ?a2 ?l2 ?c2 ?k2 ?a3 ?l3 ?c3 ?k3 ?a4 ?l4 ?c4 ?k4 ?a5 ?l5 ?c5 ?k5 ?a6 ?l6 ?c6 ?k6 ?a7 ?l7 ?c7 ?k7 ?a8 ?l8 ?c8 ?k8 ?a9 ?l9 ?c9 ?k9 ?a10 ?l10 ?c10 ?k10 ?a11 ?l11 ?c11 ?k11 ?a12 ?l12 ?c12 ?k12 ?a13 ?l13 ?c13 ?k13 ?a14 ?l14 ?c14 ?k14 ?a15 ?l15 ?c15 ?k15 ?a16 ?l16 ?c16 ?k16 ?a17 ?l17 ?c17 ?k17 ?a18 ?l18 ?c18 ?k18 ?a19 ?l19 ?c19 ?k19 ?a20 ?l20 ?c20 ?k20 ?a21 ?l21 ?c21 ?k21 ?a22 ?l22 ?c22 ?k22 ?a23 ?l23 ?c23 ?k23 ?a24 ?l24 ?c24 ?k24 ?zabs ?zbool ?zint ?zisinstance ?zlen ?zlist ?zmin ?zrange ?zset ?zsorted ?zstr ?ztuple ?zzip
    (case aCSeamError => k_is)
    (case a1 => k_is)
    (case l1 => k_is)
    (case c1 => k_is)
    (case k1 => k_is)
    (case a2 => k_is)
    (case l2 => k_is)
    (case c2 => k_is)
    (case k2 => k_is)
    (case a3 => k_is)
    (case l3 => k_is)
    (case c3 => k_is)
    (case k3 => k_is)
    (case a4 => k_is)
    (case l4 => k_is)
    (case c4 => k_is)
    (case k4 => k_is)
    (case a5 => k_is)
    (case l5 => k_is)
    (case c5 => k_is)
    (case k5 => k_is)
    (case a6 => k_is)
    (case l6 => k_is)
    (case c6 => k_is)
    (case k6 => k_is)
    (case a7 => k_is)
    (case l7 => k_is)
    (case c7 => k_is)
    (case k7 => k_is)
    (case a8 => k_is)
    (case l8 => k_is)
    (case c8 => k_is)
    (case k8 => k_is)
    (case a9 => k_is)
    (case l9 => k_is)
    (case c9 => k_is)
    (case k9 => k_is)
    (case a10 => k_is)
    (case l10 => k_is)
    (case c10 => k_is)
    (case k10 => k_is)
    (case a11 => k_is)
    (case l11 => k_is)
    (case c11 => k_is)
    (case k11 => k_is)
    (case a12 => k_is)
    (case l12 => k_is)
    (case c12 => k_is)
    (case k12 => k_is)
    (case a13 => k_is)
    (case l13 => k_is)
    (case c13 => k_is)
    (case k13 => k_is)
    (case a14 => k_is)
    (case l14 => k_is)
    (case c14 => k_is)
    (case k14 => k_is)
    (case a15 => k_is)
    (case l15 => k_is)
    (case c15 => k_is)
    (case k15 => k_is)
    (case a16 => k_is)
    (case l16 => k_is)
    (case c16 => k_is)
    (case k16 => k_is)
    (case a17 => k_is)
    (case l17 => k_is)
    (case c17 => k_is)
    (case k17 => k_is)
    (case a18 => k_is)
    (case l18 => k_is)
    (case c18 => k_is)
    (case k18 => k_is)
    (case a19 => k_is)
    (case l19 => k_is)
    (case c19 => k_is)
    (case k19 => k_is)
    (case a20 => k_is)
    (case l20 => k_is)
    (case c20 => k_is)
    (case k20 => k_is)
    (case a21 => k_is)
    (case l21 => k_is)
    (case c21 => k_is)
    (case k21 => k_is)
    (case a22 => k_is)
    (case l22 => k_is)
    (case c22 => k_is)
    (case k22 => k_is)
    (case a23 => k_is)
    (case l23 => k_is)
    (case c23 => k_is)
    (case k23 => k_is)
    (case a24 => k_is)
    (case l24 => k_is)
    (case c24 => k_is)
    (case k24 => k_is)
    (case zabs => k_is)
    (case zbool => k_is)
    (case zint => k_is)
    (case zisinstance => k_is)
    (case zlen => k_is)
    (case zlist => k_is)
    (case zmin => k_is)
    (case zrange => k_is)
    (case zset => k_is)
    (case zsorted => k_is)
    (case zstr => k_is)
    (case ztuple => k_is)
    (case zzip => k_is)

