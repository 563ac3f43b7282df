import PyProof.Rows.All
import Wide.All
import OpenK.AllK
import Wide.FinOn
import HandS.ForMost
import HandS.ForExc
import HandS.Lambda
import HandS.IsInst
import HandS.Deep
import HandS.TupAny
import HandS.Zip
import HandS.EndTab
import HandS.Small
import HandS.ExcIs
import KE.DataMinMax
import KE.DataFind
import KE.SortData
import KE.SortKeyHeap
import HandS.Codes
import HandS.Conv
import HandS.Strs
import HandS.StrMore
import HandS.StrSplit
import HandS.TryMany
import HandS.Rev
import HandS.RevRange
import HandS.ExcInit
import KE.GoesEnum
import HandS.TupMul
import HandS.TupLe
import HandS.Style
import PySem.Challenge.RW_emberhall_k28_whole_stretches_of_hose
set_option Elab.async false
set_option linter.all false
set_option maxRecDepth 100000
namespace Em
open PySem PySem.Spec PyProof.Rows L2

abbrev D := PyData
inductive Cell where
  | lst (ds : List D)
  | frz (ds : List D)
  | dk (kvs : List (Key × D))
abbrev Mem := List Cell
inductive R where
  | d (x : D)
  | c (n : Nat)
  | fl (ds : List D)
  | fk (kvs : List (Key × D))
  | o (a : Addr)
structure Ex where
  cls : Str
  arg : Option (Str × D)
inductive Rs (α : Type) where
  | ok (a : α) (μ : Mem)
  | ex (x : Ex) (μ : Mem)
  | no
abbrev Vr := List (Option R)
abbrev EC := Vr → Mem → Rs R
abbrev TC := Vr → Mem → Rs Bool
abbrev AC := Vr → Mem → Rs (List R)
def Rs.bind {α β : Type} (r : Rs α) (f : α → Mem → Rs β) : Rs β := match r with
  | .ok a μ => f a μ
  | .ex x μ => .ex x μ
  | .no => .no
theorem bind_ok {α β : Type} {a : α} {μ : Mem} {f : α → Mem → Rs β} : Rs.bind (.ok a μ) f = f a μ := rfl
theorem bind_ex {α β : Type} {x : Ex} {μ : Mem} {f : α → Mem → Rs β} : Rs.bind (.ex x μ) f = .ex x μ := rfl
theorem bind_no {α β : Type} {f : α → Mem → Rs β} : Rs.bind (.no : Rs α) f = .no := rfl

/-! ### data -/
mutual
/-- what a value is, as data that never changes -/
inductive Dq (K : PySem.W.Frag) (F : Hp) : V → PyData → Prop
  | non : Dq K F .non .none
  | bl (b : Bool) : Dq K F (.bl b) (.bool b)
  | int (i : Int) : Dq K F (.int i) (.int i)
  | str (x : Str) : Dq K F (.str x) (.str x)
  | lst {a : Addr} {xs : List V} {ds : List PyData} : Rd F a (.lst xs) → DqAll K F xs ds → Dq K F (.ref a) (.list ds)
  | tup {a : Addr} {xs : List V} {ds : List PyData} : SqT K F a xs → DqAll K F xs ds → Dq K F (.ref a) (.tuple ds)
inductive DqAll (K : PySem.W.Frag) (F : Hp) : List V → List PyData → Prop
  | nil : DqAll K F [] []
  | cons {v : V} {vs : List V} {d : PyData} {ds : List PyData} : Dq K F v d → DqAll K F vs ds → DqAll K F (v :: vs) (d :: ds)
end
mutual
theorem Dq.dp {K : PySem.W.Frag} {F : Hp} : ∀ {v : V} {d : PyData}, Dq K F v d → Dp K F v d
  | _, _, .non => .non
  | _, _, .bl b => .bl b
  | _, _, .int i => .int i
  | _, _, .str x => .str x
  | _, _, .lst h r => .lst (.inl h) (DqAll.dp r)
  | _, _, .tup h r => .tup h (DqAll.dp r)
theorem DqAll.dp {K : PySem.W.Frag} {F : Hp} : ∀ {vs : List V} {ds : List PyData}, DqAll K F vs ds → DpAll K F vs ds
  | _, _, .nil => .nil
  | _, _, .cons h t => .cons (Dq.dp h) (DqAll.dp t)
end
theorem Rd_mono {F F' : Hp} {a : Addr} {u : HO} (e : Same F F') (h : Rd F a u) : Rd F' a u := by
  rcases h with h | ⟨o, h⟩
  · exact .inl (e _ _ h)
  · exact .inr ⟨o, e _ _ h⟩
/-! ### relations -/
def CellOk (K : PySem.W.Frag) (F H : Hp) (a : Addr) : Cell → Prop
  | .lst ds => F a = none ∧ ∃ vs, H a = some (.lst vs) ∧ DqAll K F vs ds
  | .frz ds => ∃ vs, F a = some (.lst vs) ∧ DqAll K F vs ds
  | .dk kvs => F a = none ∧ ∃ kv, H a = some (.dK kv) ∧ kv.map (·.1) = kvs.map (·.1) ∧ DqAll K F (kv.map (·.2)) (kvs.map (·.2))
def RelR (K : PySem.W.Frag) (F : Hp) (as : List Addr) (H : Hp) : R → V → Prop
  | .d x, v => Dq K F v x
  | .c n, v => ∃ a, as[n]? = some a ∧ v = .ref a
  | .fl ds, v => ∃ a vs, v = .ref a ∧ a ∉ as ∧ F a = none ∧ H a = some (.lst vs) ∧ DqAll K F vs ds
  | .fk kvs, v => ∃ a kv, v = .ref a ∧ a ∉ as ∧ F a = none ∧ H a = some (.dK kv) ∧ kv.map (·.1) = kvs.map (·.1) ∧ DqAll K F (kv.map (·.2)) (kvs.map (·.2))
  | .o b, v => v = .ref b
def RelW (K : PySem.W.Frag) (F : Hp) (as : List Addr) : R → V → Prop
  | .d x, v => Dq K F v x
  | .c n, v => ∃ a, as[n]? = some a ∧ v = .ref a
  | .o b, v => v = .ref b
  | _, _ => False
/-- the tables of code objects; what was known at some time -/
structure Tb where
  tabs : List (Addr × Str)
  F0 : Hp
  as0 : List Addr
structure Ext (F : Hp) (as : List Addr) (F' : Hp) (as' : List Addr) : Prop where
  same : Same F F'
  pre : ∃ t, as' = as ++ t
structure Mm (K : PySem.W.Frag) (T : Tb) (μ : Mem) (H F : Hp) (as : List Addr) : Prop where
  same : Same F H
  ntb : ∀ a ps, F a ≠ some (.tbl ps)
  nd : as.Nodup
  len : μ.length = as.length
  cell : ∀ (n : Nat) (c : Cell) (a : Addr), μ[n]? = some c → as[n]? = some a → CellOk K F H a c
  tabs : LamX.Tabs T.tabs H
  base : Ext T.F0 T.as0 F as
def EnvR (K : PySem.W.Frag) (ρ : Vr) (σ : L2.St) (F : Hp) (as : List Addr) : Prop :=
  ρ.length = σ.length ∧ ∀ (i : Nat) (r : R), ρ[i]? = some (some r) → ∃ v, σ[i]? = some (some v) ∧ RelW K F as r v

mutual
theorem Dq_mono {K : PySem.W.Frag} {F F' : Hp} (e : Same F F') : ∀ {v : V} {d : D}, Dq K F v d → Dq K F' v d
  | _, _, .non => .non
  | _, _, .bl b => .bl b
  | _, _, .int i => .int i
  | _, _, .str x => .str x
  | _, _, .lst h r => .lst (Rd_mono e h) (DqAll_mono e r)
  | _, _, .tup h r => by
    refine .tup ?_ (DqAll_mono e r)
    rcases h with (h | ⟨o, h⟩) | h
    · exact .inl (.inl (e _ _ h))
    · exact .inl (.inr ⟨o, e _ _ h⟩)
    · exact .inr h
theorem DqAll_mono {K : PySem.W.Frag} {F F' : Hp} (e : Same F F') : ∀ {vs : List V} {ds : List D}, DqAll K F vs ds → DqAll K F' vs ds
  | _, _, .nil => .nil
  | _, _, .cons h t => .cons (Dq_mono e h) (DqAll_mono e t)
end
end Em
set_option maxRecDepth 100000
namespace Em
open PySem PySem.Spec PyProof.Rows L2

theorem Ext.refl (F : Hp) (as : List Addr) : Ext F as F as := ⟨Same.refl F, [], (List.append_nil as).symm⟩
theorem Ext.trans {F F1 F2 : Hp} {as as1 as2 : List Addr} (a : Ext F as F1 as1) (b : Ext F1 as1 F2 as2) : Ext F as F2 as2 := by
  obtain ⟨s1, t1, e1⟩ := a
  obtain ⟨s2, t2, e2⟩ := b
  exact ⟨s1.trans s2, t1 ++ t2, by rw [e2, e1, List.append_assoc]⟩
theorem Ext.get {F F' : Hp} {as as' : List Addr} (e : Ext F as F' as') {n : Nat} {a : Addr} (h : as[n]? = some a) : as'[n]? = some a := by
  obtain ⟨_, t, rfl⟩ := e
  rw [List.getElem?_append_left (List.getElem?_eq_some_iff.mp h).1]
  exact h
theorem RelW.mono {K : PySem.W.Frag} {F F' : Hp} {as as' : List Addr} (e : Ext F as F' as') {r : R} {v : V} (h : RelW K F as r v) : RelW K F' as' r v := by
  cases r with
  | d x => exact Dq_mono e.same h
  | c n => obtain ⟨a, h1, h2⟩ := h; exact ⟨a, e.get h1, h2⟩
  | fl ds => exact h
  | fk kvs => exact h
  | o b => exact h
theorem RelW.toR {K : PySem.W.Frag} {F H : Hp} {as : List Addr} {r : R} {v : V} (h : RelW K F as r v) : RelR K F as H r v := by
  cases r with
  | d x => exact h
  | c n => exact h
  | fl ds => exact h.elim
  | fk kvs => exact h.elim
  | o b => exact h
theorem EnvR.mono {K : PySem.W.Frag} {ρ : Vr} {σ : L2.St} {F F' : Hp} {as as' : List Addr} (e : Ext F as F' as') (h : EnvR K ρ σ F as) : EnvR K ρ σ F' as' :=
  ⟨h.1, fun i r q => let ⟨v, h1, h2⟩ := h.2 i r q; ⟨v, h1, h2.mono e⟩⟩

/-! ### the memory -/
theorem nodup_at {as : List Addr} (h : as.Nodup) {i j : Nat} {a : Addr} (h1 : as[i]? = some a) (h2 : as[j]? = some a) : i = j := by
  obtain ⟨l1, q1⟩ := List.getElem?_eq_some_iff.mp h1
  obtain ⟨l2, q2⟩ := List.getElem?_eq_some_iff.mp h2
  have P := List.pairwise_iff_getElem.mp h
  rcases Nat.lt_trichotomy i j with z | z | z
  · exact absurd (q1.trans q2.symm) (P i j l1 l2 z)
  · exact z
  · exact absurd (q2.trans q1.symm) (P j i l2 l1 z)
theorem same_new {H : Hp} {p : Addr} {o : HO} (h : H p = none) : Same H (upd H p o) := fun b x e => by
  rw [upd_ne (ne_of_none e h)]
  exact e
theorem CellOk.grow {K : PySem.W.Frag} {F F' H H' : Hp} {a : Addr} {c : Cell} (h : CellOk K F H a c) (sF : Same F F') (sH : ∀ o, H a = some o → H' a = some o) (hn : F a = none → F' a = none) : CellOk K F' H' a c := by
  cases c with
  | lst ds => obtain ⟨h1, vs, h2, h3⟩ := h; exact ⟨hn h1, vs, sH _ h2, DqAll_mono sF h3⟩
  | frz ds => obtain ⟨vs, h2, h3⟩ := h; exact ⟨vs, sF _ _ h2, DqAll_mono sF h3⟩
  | dk kvs => obtain ⟨h1, kv, h2, h3, h4⟩ := h; exact ⟨hn h1, kv, sH _ h2, h3, DqAll_mono sF h4⟩
section
variable {K : PySem.W.Frag} {T : Tb} {μ : Mem} {H F : Hp} {as : List Addr}
/-- a new object that is not (yet) known -/
theorem Mm.alloc (m : Mm K T μ H F as) {p : Addr} {o : HO} (hp : H p = none) : Mm K T μ (upd H p o) F as :=
  ⟨m.same.trans (same_new hp), m.ntb, m.nd, m.len, fun n c a h1 h2 => (m.cell n c a h1 h2).grow (Same.refl F) (fun o e => same_new hp _ _ e) id, m.tabs.ext (same_new hp), m.base⟩
theorem Mm.freeF (m : Mm K T μ H F as) {p : Addr} (hp : H p = none) : F p = none := m.same.free hp
theorem Mm.notin (m : Mm K T μ H F as) {p : Addr} (hp : H p = none) : p ∉ as := fun hm => by
  obtain ⟨n, hn, e⟩ := List.getElem_of_mem hm
  have hm' : n < μ.length := by rw [m.len]; exact hn
  have q := m.cell n μ[n] p (List.getElem?_eq_getElem hm') (by rw [List.getElem?_eq_getElem hn, e])
  cases hc : μ[n] with
  | lst ds => rw [hc] at q; obtain ⟨_, vs, h2, _⟩ := q; rw [hp] at h2; cases h2
  | frz ds =>
    rw [hc] at q
    obtain ⟨vs, h2, _⟩ := q
    rw [m.freeF hp] at h2; cases h2
  | dk kvs => rw [hc] at q; obtain ⟨_, vs, h2, _⟩ := q; rw [hp] at h2; cases h2

theorem Ext.new {p : Addr} {o : HO} (hF : F p = none) : Ext F as (upd F p o) as := ⟨same_new hF, [], (List.append_nil as).symm⟩
theorem Mm.freeze (m : Mm K T μ H F as) {p : Addr} {o : HO} (hF : F p = none) (hH : H p = some o) (hp : p ∉ as) (ho : ∀ ps, o ≠ .tbl ps) : Mm K T μ H (upd F p o) as := by
  refine ⟨fun b x e => ?_, fun a ps e => ?_, m.nd, m.len, fun n c a h1 h2 => (m.cell n c a h1 h2).grow (same_new hF) (fun o e => e) (fun hn => ?_), m.tabs, m.base.trans (Ext.new hF)⟩
  · by_cases hb : b = p
    · subst hb; rw [upd_same] at e; cases e; exact hH
    · rw [upd_ne hb] at e; exact m.same _ _ e
  · by_cases hb : a = p
    · subst hb; rw [upd_same] at e; cases e; exact ho _ rfl
    · rw [upd_ne hb] at e; exact m.ntb _ _ e
  · rw [upd_ne]
    · exact hn
    · rintro rfl
      exact hp (List.mem_of_getElem? h2)
theorem Mm.adopt (m : Mm K T μ H F as) {p : Addr} {c : Cell} (hp : p ∉ as) (hc : CellOk K F H p c) : Mm K T (μ ++ [c]) H F (as ++ [p]) := by
  refine ⟨m.same, m.ntb, ?_, ?_, fun n c' a h1 h2 => ?_, m.tabs, m.base.trans ⟨Same.refl _, [p], rfl⟩⟩
  · rw [List.nodup_append]
    refine ⟨m.nd, by simp, fun a ha b hb => ?_⟩
    rw [List.mem_singleton] at hb
    subst hb
    exact fun e => hp (e ▸ ha)
  · rw [List.length_append, List.length_append, m.len]; rfl
  · by_cases hn : n < μ.length
    · have hn' : n < as.length := by rw [← m.len]; exact hn
      rw [List.getElem?_append_left hn] at h1
      rw [List.getElem?_append_left hn'] at h2
      exact m.cell n c' a h1 h2
    · have hn' : as.length ≤ n := by rw [← m.len]; omega
      rw [List.getElem?_append_right (by omega)] at h1
      rw [List.getElem?_append_right hn'] at h2
      rw [m.len] at h1
      obtain ⟨e1, h1⟩ := List.getElem?_eq_some_iff.mp h1
      obtain ⟨e2, h2⟩ := List.getElem?_eq_some_iff.mp h2
      simp at h1 h2
      subst h1; subst h2
      exact hc
theorem tabs_upd {a : Addr} {o o' : HO} (t : LamX.Tabs T.tabs H) (h : H a = some o) (h1 : ∀ ps, o ≠ .tbl ps) (h2 : ∀ φ, o ≠ .ext φ) : LamX.Tabs T.tabs (upd H a o') := fun p hp => by
  obtain ⟨ps, e1, e2, e3⟩ := t p hp
  refine ⟨ps, ?_, e2, fun pos cv hc => ?_⟩
  · rw [upd_ne]
    · exact e1
    · intro z; rw [z, h] at e1; cases e1; exact h1 _ rfl
  · obtain ⟨c, r1, r2⟩ := e3 pos cv hc
    refine ⟨c, r1, ?_⟩
    rw [upd_ne]
    · exact r2
    · intro z; rw [z, h] at r2; cases r2; exact h2 _ rfl
theorem Mm.write (m : Mm K T μ H F as) {n : Nat} {a : Addr} {o o' : HO} {c' : Cell} (hn : as[n]? = some a) (hF : F a = none) (h : H a = some o) (h1 : ∀ ps, o ≠ .tbl ps) (h2 : ∀ φ, o ≠ .ext φ) (hc : CellOk K F (upd H a o') a c') : Mm K T (μ.set n c') (upd H a o') F as := by
  refine ⟨fun b x e => ?_, m.ntb, m.nd, by rw [List.length_set]; exact m.len, fun k c b e1 e2 => ?_, tabs_upd m.tabs h h1 h2, m.base⟩
  · rw [upd_ne]
    · exact m.same _ _ e
    · rintro rfl; rw [hF] at e; cases e
  · by_cases hk : k = n
    · subst hk
      have hl : k < μ.length := by rw [m.len]; exact (List.getElem?_eq_some_iff.mp e2).1
      rw [List.getElem?_set_self hl] at e1
      rw [hn] at e2
      cases e1; cases e2
      exact hc
    · rw [List.getElem?_set_ne (Ne.symm hk)] at e1
      have hb : b ≠ a := by
        rintro rfl
        exact hk (nodup_at m.nd e2 hn)
      exact (m.cell k c b e1 e2).grow (Same.refl F) (fun o e => by rw [upd_ne hb]; exact e) id
/-- a live list cell is frozen -/
theorem Mm.frz (m : Mm K T μ H F as) {n : Nat} {a : Addr} {ds : List D} (hn : as[n]? = some a) (hc : μ[n]? = some (.lst ds)) : ∃ vs, Mm K T (μ.set n (.frz ds)) H (upd F a (.lst vs)) as ∧ Ext F as (upd F a (.lst vs)) as ∧ (upd F a (.lst vs)) a = some (.lst vs) ∧ DqAll K (upd F a (.lst vs)) vs ds := by
  obtain ⟨hF, vs, hH, hd⟩ := m.cell n _ a hc hn
  have sF : Same F (upd F a (.lst vs)) := same_new hF
  refine ⟨vs, ⟨fun b x e => ?_, fun b ps e => ?_, m.nd, by rw [List.length_set]; exact m.len, fun k c b e1 e2 => ?_, m.tabs, m.base.trans (Ext.new hF)⟩, Ext.new hF, upd_same, DqAll_mono sF hd⟩
  · by_cases hb : b = a
    · subst hb; rw [upd_same] at e; cases e; exact hH
    · rw [upd_ne hb] at e; exact m.same _ _ e
  · by_cases hb : b = a
    · subst hb; rw [upd_same] at e; cases e
    · rw [upd_ne hb] at e; exact m.ntb _ _ e
  · by_cases hk : k = n
    · subst hk
      have hl : k < μ.length := by rw [m.len]; exact (List.getElem?_eq_some_iff.mp e2).1
      rw [List.getElem?_set_self hl] at e1
      rw [hn] at e2
      cases e1; cases e2
      exact ⟨vs, upd_same, DqAll_mono sF hd⟩
    · rw [List.getElem?_set_ne (Ne.symm hk)] at e1
      have hb : b ≠ a := by
        rintro rfl
        exact hk (nodup_at m.nd e2 hn)
      exact (m.cell k c b e1 e2).grow sF (fun o e => e) (fun hn' => by rw [upd_ne hb]; exact hn')
end

/-! ### holding and seeing a value -/
def hold : R → Mem → Rs R
  | .d x, μ => .ok (.d x) μ
  | .c n, μ => .ok (.c n) μ
  | .fl ds, μ => .ok (.d (.list ds)) μ
  | .fk kvs, μ => .ok (.c μ.length) (μ ++ [.dk kvs])
  | .o b, μ => .ok (.o b) μ
/-- as data that is never changed again -/
def toD : R → Mem → Rs R
  | .d x, μ => .ok (.d x) μ
  | .c n, μ => match μ[n]? with
    | some (.lst ds) => .ok (.d (.list ds)) (μ.set n (.frz ds))
    | some (.frz ds) => .ok (.d (.list ds)) μ
    | _ => .no
  | .fl ds, μ => .ok (.d (.list ds)) μ
  | .fk _, _ => .no
  | .o _, _ => .no
/-- what it holds now -/
def see : R → Mem → Option D
  | .d x, _ => some x
  | .c n, μ => match μ[n]? with
    | some (.lst ds) => some (.list ds)
    | some (.frz ds) => some (.list ds)
    | _ => none
  | _, _ => none
section
variable {K : PySem.W.Frag} {T : Tb} {μ μ' : Mem} {H F : Hp} {as : List Addr} {r r' : R} {v : V}
theorem hold_ok (m : Mm K T μ H F as) (h : RelR K F as H r v) (e : hold r μ = .ok r' μ') : ∃ F' as', Ext F as F' as' ∧ Mm K T μ' H F' as' ∧ RelW K F' as' r' v := by
  cases r with
  | d x => cases e; exact ⟨F, as, Ext.refl _ _, m, h⟩
  | c n => cases e; exact ⟨F, as, Ext.refl _ _, m, h⟩
  | fl ds =>
    cases e
    obtain ⟨a, vs, rfl, h1, h2, h3, h4⟩ := h
    exact ⟨upd F a (.lst vs), as, Ext.new h2, m.freeze h2 h3 h1 (fun ps z => by cases z), .lst (.inl upd_same) (DqAll_mono (same_new h2) h4)⟩
  | fk kvs =>
    cases e
    obtain ⟨a, kv, rfl, h1, h2, h3, h4, h5⟩ := h
    refine ⟨F, as ++ [a], ⟨Same.refl _, [a], rfl⟩, m.adopt h1 ⟨h2, kv, h3, h4, h5⟩, a, ?_, rfl⟩
    rw [m.len, List.getElem?_append_right (Nat.le_refl _)]
    simp
  | o b => cases e; exact ⟨F, as, Ext.refl _ _, m, h⟩
theorem toD_ok (m : Mm K T μ H F as) (h : RelR K F as H r v) (e : toD r μ = .ok r' μ') : ∃ F' d, r' = .d d ∧ Ext F as F' as ∧ Mm K T μ' H F' as ∧ Dq K F' v d := by
  cases r with
  | d x => cases e; exact ⟨F, x, rfl, Ext.refl _ _, m, h⟩
  | c n =>
    obtain ⟨a, ha, rfl⟩ := h
    unfold toD at e
    cases hc : μ[n]? with
    | none => simp only [hc] at e; cases e
    | some c =>
      cases c with
      | lst ds =>
        simp only [hc] at e; cases e
        obtain ⟨vs, m', x', q1, q2⟩ := m.frz ha hc
        exact ⟨_, _, rfl, x', m', .lst (.inl q1) q2⟩
      | frz ds =>
        simp only [hc] at e; cases e
        obtain ⟨vs, q1, q2⟩ := m.cell n _ a hc ha
        exact ⟨F, _, rfl, Ext.refl _ _, m, .lst (.inl q1) q2⟩
      | dk kvs => simp only [hc] at e; cases e
  | fl ds =>
    cases e
    obtain ⟨a, vs, rfl, h1, h2, h3, h4⟩ := h
    exact ⟨upd F a (.lst vs), _, rfl, Ext.new h2, m.freeze h2 h3 h1 (fun ps z => by cases z), .lst (.inl upd_same) (DqAll_mono (same_new h2) h4)⟩
  | fk kvs => cases e
  | o b => cases e
theorem see_list {ds : List D} (m : Mm K T μ H F as) (h : RelW K F as r v) (e : see r μ = some (.list ds)) : ∃ a vs, v = .ref a ∧ Rd H a (.lst vs) ∧ DqAll K F vs ds := by
  cases r with
  | d x =>
    cases e
    cases h with
    | lst h1 h2 => exact ⟨_, _, rfl, Rd_mono m.same h1, h2⟩
  | c n =>
    obtain ⟨a, ha, rfl⟩ := h
    unfold see at e
    cases hc : μ[n]? with
    | none => simp only [hc] at e; cases e
    | some c =>
      cases c with
      | lst ds' =>
        simp only [hc] at e; cases e
        obtain ⟨_, vs, q1, q2⟩ := m.cell n _ a hc ha
        exact ⟨a, vs, rfl, .inl q1, q2⟩
      | frz ds' =>
        simp only [hc] at e; cases e
        obtain ⟨vs, q1, q2⟩ := m.cell n _ a hc ha
        exact ⟨a, vs, rfl, .inl (m.same _ _ q1), q2⟩
      | dk kvs => simp only [hc] at e; cases e
  | fl ds => exact h.elim
  | fk kvs => exact h.elim
  | o b => cases e
theorem same_tup {K : PySem.W.Frag} {H H' : Hp} {a : Addr} {xs : List V} (e : Same H H') (h : SqT K H a xs) : SqT K H' a xs := by
  rcases h with (h | ⟨o, h⟩) | h
  · exact .inl (.inl (e _ _ h))
  · exact .inl (.inr ⟨o, e _ _ h⟩)
  · exact .inr h
theorem see_d {x : D} (h : RelW K F as r v) (e : see r μ = some x) (hx : ∀ ds, x ≠ .list ds) : Dq K F v x := by
  cases r with
  | d x => cases e; exact h
  | c n =>
    unfold see at e
    cases hc : μ[n]? with
    | none => simp only [hc] at e; cases e
    | some c =>
      cases c with
      | lst ds' => simp only [hc] at e; cases e; exact absurd rfl (hx _)
      | frz ds' => simp only [hc] at e; cases e; exact absurd rfl (hx _)
      | dk kvs => simp only [hc] at e; cases e
  | fl ds => exact h.elim
  | fk kvs => exact h.elim
  | o b => cases e
theorem see_tup {ds : List D} (m : Mm K T μ H F as) (h : RelW K F as r v) (e : see r μ = some (.tuple ds)) : ∃ a vs, v = .ref a ∧ SqT K H a vs ∧ SqT K F a vs ∧ DqAll K F vs ds := by
  cases see_d h e (fun ds z => by cases z) with
  | tup h1 h2 => exact ⟨_, _, rfl, same_tup m.same h1, h1, h2⟩
theorem see_Dq {x : D} (m : Mm K T μ H F as) (h : RelW K F as r v) (e : see r μ = some x) : Dq K H v x := by
  cases x with
  | list ds => obtain ⟨a, vs, rfl, h1, h2⟩ := see_list m h e; exact .lst h1 (DqAll_mono m.same h2)
  | none => exact Dq_mono m.same (see_d h e (fun ds z => by cases z))
  | bool b => exact Dq_mono m.same (see_d h e (fun ds z => by cases z))
  | int i => exact Dq_mono m.same (see_d h e (fun ds z => by cases z))
  | str s => exact Dq_mono m.same (see_d h e (fun ds z => by cases z))
  | tuple ds => exact Dq_mono m.same (see_d h e (fun ds z => by cases z))
  | dict kvs => exact Dq_mono m.same (see_d h e (fun ds z => by cases z))
theorem see_int {i : Int} (h : RelW K F as r v) (e : see r μ = some (.int i)) : v = .int i := by
  cases see_d h e (fun ds z => by cases z); rfl
theorem see_str {i : Str} (h : RelW K F as r v) (e : see r μ = some (.str i)) : v = .str i := by
  cases see_d h e (fun ds z => by cases z); rfl
theorem see_bool {i : Bool} (h : RelW K F as r v) (e : see r μ = some (.bool i)) : v = .bl i := by
  cases see_d h e (fun ds z => by cases z); rfl
theorem see_none (h : RelW K F as r v) (e : see r μ = some .none) : v = .non := by
  cases see_d h e (fun ds z => by cases z); rfl
end
theorem DqAll.get {K : PySem.W.Frag} {F : Hp} : ∀ {vs : List V} {ds : List D} {i : Nat} {d : D}, DqAll K F vs ds → ds[i]? = some d → ∃ v, vs[i]? = some v ∧ Dq K F v d
  | _, _, _, _, .nil, h => by simp at h
  | _, _, 0, _, .cons h t, e => by simp at e; subst e; exact ⟨_, rfl, h⟩
  | _, _, i + 1, d, .cons h t, e => by
    obtain ⟨v, h1, h2⟩ := DqAll.get (i := i) (d := d) t (by simpa using e)
    exact ⟨v, by simpa using h1, h2⟩
theorem DqAll.length {K : PySem.W.Frag} {F : Hp} : ∀ {vs : List V} {ds : List D}, DqAll K F vs ds → vs.length = ds.length
  | _, _, .nil => rfl
  | _, _, .cons h t => by rw [List.length_cons, List.length_cons, DqAll.length t]
theorem DqAll.append {K : PySem.W.Frag} {F : Hp} : ∀ {vs ws : List V} {ds es : List D}, DqAll K F vs ds → DqAll K F ws es → DqAll K F (vs ++ ws) (ds ++ es)
  | _, _, _, _, .nil, s => s
  | _, _, _, _, .cons h t, s => .cons h (DqAll.append t s)
theorem DqAll.take {K : PySem.W.Frag} {F : Hp} : ∀ {vs : List V} {ds : List D} (n : Nat), DqAll K F vs ds → DqAll K F (vs.take n) (ds.take n)
  | _, _, 0, _ => .nil
  | _, _, _ + 1, .nil => .nil
  | _, _, n + 1, .cons h t => .cons h (DqAll.take n t)
theorem DqAll.drop {K : PySem.W.Frag} {F : Hp} : ∀ {vs : List V} {ds : List D} (n : Nat), DqAll K F vs ds → DqAll K F (vs.drop n) (ds.drop n)
  | _, _, 0, h => h
  | _, _, _ + 1, .nil => .nil
  | _, _, n + 1, .cons h t => DqAll.drop n t
theorem DqAll.set {K : PySem.W.Frag} {F : Hp} {v : V} {d : D} (q : Dq K F v d) : ∀ {vs : List V} {ds : List D} (n : Nat), DqAll K F vs ds → DqAll K F (vs.set n v) (ds.set n d)
  | _, _, _, .nil => .nil
  | _, _, 0, .cons h t => .cons q t
  | _, _, n + 1, .cons h t => .cons h (DqAll.set q n t)
theorem DqAll.ints {K : PySem.W.Frag} {F : Hp} : ∀ (ns : List Int), DqAll K F (ns.map V.int) (ns.map PyData.int)
  | [] => .nil
  | n :: ns => .cons (.int n) (DqAll.ints ns)
theorem DqAll.of_ints {K : PySem.W.Frag} {F : Hp} : ∀ {vs : List V} {ns : List Int}, DqAll K F vs (ns.map PyData.int) → vs = ns.map V.int
  | _, [], .nil => rfl
  | _, n :: ns, .cons h t => by cases h; rw [DqAll.of_ints t]; rfl
theorem DqAll.of_bools {K : PySem.W.Frag} {F : Hp} : ∀ {vs : List V} {ns : List Bool}, DqAll K F vs (ns.map PyData.bool) → vs = ns.map V.bl
  | _, [], .nil => rfl
  | _, n :: ns, .cons h t => by cases h; rw [DqAll.of_bools t]; rfl
theorem DqAll.of_strs {K : PySem.W.Frag} {F : Hp} : ∀ {vs : List V} {ns : List Str}, DqAll K F vs (ns.map PyData.str) → vs = ns.map V.str
  | _, [], .nil => rfl
  | _, n :: ns, .cons h t => by cases h; rw [DqAll.of_strs t]; rfl
theorem DqAll.strs {K : PySem.W.Frag} {F : Hp} : ∀ (ns : List Str), DqAll K F (ns.map V.str) (ns.map PyData.str)
  | [] => .nil
  | n :: ns => .cons (.str n) (DqAll.strs ns)
end Em
set_option maxRecDepth 100000
namespace Em
open PySem PySem.Spec PyProof.Rows L2

/-! ### what a piece of the text does, as it stands -/
def VE (X : Cx) (e : Expr) (σ : L2.St) (H : Hp) (Q : VK) : Prop := ∀ (pins : List (Addr × Obj)) (s : Shared), Inv X pins σ H s → wpAny (model X.prog X.w) X.A (eval e X.env) (EP X pins σ Q) X.xe s
def VT (X : Cx) (e : Expr) (σ : L2.St) (H : Hp) (Q : Bool → Hp → Prop) : Prop := ∀ (pins : List (Addr × Obj)) (s : Shared), Inv X pins σ H s → wpAny (model X.prog X.w) X.A (isTrue e X.env (eval e X.env)) (TP X pins σ Q) X.xe s
def VU (X : Cx) (e : Expr) (σ : L2.St) (H : Hp) (Q : Bool → Hp → Prop) : Prop := ∀ (whole : Sem Value) (pins : List (Addr × Obj)) (s : Shared), Inv X pins σ H s → wpAny (model X.prog X.w) X.A (isTrue e X.env whole) (TP X pins σ Q) X.xe s
def VA (X : Cx) (es : List Expr) (σ : L2.St) (H : Hp) (Q : List V → Hp → Prop) : Prop := ∀ (pos : Pos) (pins : List (Addr × Obj)) (s : Shared), Inv X pins σ H s → wpAny (model X.prog X.w) X.A (spliced (backTo pos (starEach es X.env))) (AP X pins σ Q) X.xe s
def VS (X : Cx) (st : Stmt) (σ : L2.St) (H : Hp) (D : Ends) : Prop := ∀ (pins : List (Addr × Obj)) (s : Shared), Inv X pins σ H s → wpAny (model X.prog X.w) X.A (exec st X.env) (SP X pins D) X.xe s
def VB (X : Cx) (st : List Stmt) (σ : L2.St) (H : Hp) (D : Ends) : Prop := ∀ (pins : List (Addr × Obj)) (s : Shared), Inv X pins σ H s → wpAny (model X.prog X.w) X.A (execs st X.env) (SP X pins D) X.xe s
theorem pe_self {X : Cx} {e : Expr} : PE X e (fun σ H Q => VE X e σ H Q) := ⟨fun pins s _ _ _ I h => h pins s I⟩
theorem pt_self {X : Cx} {e : Expr} : PT X e (fun σ H Q => VT X e σ H Q) := ⟨fun pins s _ _ _ I h => h pins s I⟩
theorem pw_self {X : Cx} {e : Expr} : PW X e (fun σ H Q => VU X e σ H Q) := ⟨fun w pins s _ _ _ I h => h w pins s I⟩
theorem pa_self {X : Cx} {es : List Expr} : PA X es (fun σ H Q => VA X es σ H Q) := ⟨fun pos pins s _ _ _ I h => h pos pins s I⟩
theorem ps_self {X : Cx} {st : Stmt} : PS X st (fun D σ H => VS X st σ H D) := ⟨fun pins s _ _ _ I h => h pins s I⟩
theorem pss_self {X : Cx} {st : List Stmt} : PSs X st (fun D σ H => VB X st σ H D) := ⟨fun pins s _ _ _ I h => h pins s I⟩
theorem ve_of {X : Cx} {e : Expr} {t : TE} {σ : L2.St} {H : Hp} {Q : VK} (h : PE X e t) (q : t σ H Q) : VE X e σ H Q := fun pins s I => h.run pins s σ H Q I q
theorem vt_of {X : Cx} {e : Expr} {t : TT} {σ : L2.St} {H : Hp} {Q : Bool → Hp → Prop} (h : PT X e t) (q : t σ H Q) : VT X e σ H Q := fun pins s I => h.run pins s σ H Q I q
theorem vu_of {X : Cx} {e : Expr} {t : TT} {σ : L2.St} {H : Hp} {Q : Bool → Hp → Prop} (h : PW X e t) (q : t σ H Q) : VU X e σ H Q := fun w pins s I => h.run w pins s σ H Q I q
theorem va_of {X : Cx} {e : List Expr} {t : TA} {σ : L2.St} {H : Hp} {Q : List V → Hp → Prop} (h : PA X e t) (q : t σ H Q) : VA X e σ H Q := fun pos pins s I => h.run pos pins s σ H Q I q
theorem vs_of {X : Cx} {e : Stmt} {t : TS} {σ : L2.St} {H : Hp} {D : Ends} (h : PS X e t) (q : t D σ H) : VS X e σ H D := fun pins s I => h.run pins s σ H D I q
theorem vb_of {X : Cx} {e : List Stmt} {t : TS} {σ : L2.St} {H : Hp} {D : Ends} (h : PSs X e t) (q : t D σ H) : VB X e σ H D := fun pins s I => h.run pins s σ H D I q

def XRel (K : PySem.W.Frag) (mg : Str → Option Value) (F : Hp) (x : Ex) (cls : Value) (d : Option Addr) (H : Hp) : Prop :=
  ∃ C, cls = .ref C ∧ mg x.cls = some (.ref C) ∧ match x.arg with
    | none => d = none
    | some (f, v) => ∃ a w, d = some a ∧ H a = some (.xd [(f, w)]) ∧ Dq K F w v

section
variable (K : PySem.W.Frag) (mg : Str → Option Value) (T : Tb) (σ : L2.St) (F : Hp) (as : List Addr)
def PostX (Wx : WX) (x : Ex) (μ' : Mem) : Prop := ∀ (cls : Value) (d : Option Addr) (H' F' : Hp) (as' : List Addr), Ext F as F' as' → Mm K T μ' H' F' as' → XRel K mg F' x cls d H' → Wx cls d σ H'
def PostE (Q : VK) (Wx : WX) : Rs R → Prop
  | .ok r μ' => ∀ (v : V) (H' F' : Hp) (as' : List Addr), Ext F as F' as' → Mm K T μ' H' F' as' → RelR K F' as' H' r v → Q v H'
  | .ex x μ' => PostX K mg T σ F as Wx x μ'
  | .no => False
def PostW (Q : VK) (Wx : WX) : Rs R → Prop
  | .ok r μ' => ∀ (v : V) (H' F' : Hp) (as' : List Addr), Ext F as F' as' → Mm K T μ' H' F' as' → RelW K F' as' r v → Q v H'
  | .ex x μ' => PostX K mg T σ F as Wx x μ'
  | .no => False
def PostT (Q : Bool → Hp → Prop) (Wx : WX) : Rs Bool → Prop
  | .ok b μ' => ∀ (H' F' : Hp) (as' : List Addr), Ext F as F' as' → Mm K T μ' H' F' as' → Q b H'
  | .ex x μ' => PostX K mg T σ F as Wx x μ'
  | .no => False
inductive RelWs (K : PySem.W.Frag) (F : Hp) (as : List Addr) : List R → List V → Prop
  | nil : RelWs K F as [] []
  | cons {r : R} {rs : List R} {v : V} {vs : List V} : RelW K F as r v → RelWs K F as rs vs → RelWs K F as (r :: rs) (v :: vs)
def PostA (Q : List V → Hp → Prop) (Wx : WX) : Rs (List R) → Prop
  | .ok rs μ' => ∀ (vs : List V) (H' F' : Hp) (as' : List Addr), Ext F as F' as' → Mm K T μ' H' F' as' → RelWs K F' as' rs vs → Q vs H'
  | .ex x μ' => PostX K mg T σ F as Wx x μ'
  | .no => False
end
theorem RelWs.mono {K : PySem.W.Frag} {F F' : Hp} {as as' : List Addr} (e : Ext F as F' as') : ∀ {rs : List R} {vs : List V}, RelWs K F as rs vs → RelWs K F' as' rs vs
  | _, _, .nil => .nil
  | _, _, .cons h t => .cons (h.mono e) (RelWs.mono e t)
theorem RelWs.length {K : PySem.W.Frag} {F : Hp} {as : List Addr} : ∀ {rs : List R} {vs : List V}, RelWs K F as rs vs → vs.length = rs.length
  | _, _, .nil => rfl
  | _, _, .cons h t => by rw [List.length_cons, List.length_cons, RelWs.length t]
section
variable {K : PySem.W.Frag} {mg : Str → Option Value} {T : Tb} {σ : L2.St} {F F1 : Hp} {as as1 : List Addr}
theorem PostX.ext {Wx : WX} {x : Ex} {μ' : Mem} (p : PostX K mg T σ F as Wx x μ') (e : Ext F as F1 as1) : PostX K mg T σ F1 as1 Wx x μ' := fun cls d H' F' as' e' m r => p cls d H' F' as' (e.trans e') m r
theorem PostE.ext {Q : VK} {Wx : WX} {r : Rs R} (p : PostE K mg T σ F as Q Wx r) (e : Ext F as F1 as1) : PostE K mg T σ F1 as1 Q Wx r := by
  cases r with
  | ok r μ' => exact fun v H' F' as' e' m r => p v H' F' as' (e.trans e') m r
  | ex x μ' => exact PostX.ext p e
  | no => exact p
theorem PostW.ext {Q : VK} {Wx : WX} {r : Rs R} (p : PostW K mg T σ F as Q Wx r) (e : Ext F as F1 as1) : PostW K mg T σ F1 as1 Q Wx r := by
  cases r with
  | ok r μ' => exact fun v H' F' as' e' m r => p v H' F' as' (e.trans e') m r
  | ex x μ' => exact PostX.ext p e
  | no => exact p
theorem PostT.ext {Q : Bool → Hp → Prop} {Wx : WX} {r : Rs Bool} (p : PostT K mg T σ F as Q Wx r) (e : Ext F as F1 as1) : PostT K mg T σ F1 as1 Q Wx r := by
  cases r with
  | ok r μ' => exact fun H' F' as' e' m => p H' F' as' (e.trans e') m
  | ex x μ' => exact PostX.ext p e
  | no => exact p
theorem PostA.ext {Q : List V → Hp → Prop} {Wx : WX} {r : Rs (List R)} (p : PostA K mg T σ F as Q Wx r) (e : Ext F as F1 as1) : PostA K mg T σ F1 as1 Q Wx r := by
  cases r with
  | ok r μ' => exact fun v H' F' as' e' m r => p v H' F' as' (e.trans e') m r
  | ex x μ' => exact PostX.ext p e
  | no => exact p
end

structure DE (X : Cx) (T : Tb) (e : Expr) (c : EC) : Prop where
  run : ∀ {ρ : Vr} {μ : Mem} {σ : L2.St} {H F : Hp} {as : List Addr}, Mm X.K T μ H F as → EnvR X.K ρ σ F as → ∀ {Q : VK} {Wx : WX}, Takes X Wx → PostE X.K X.mg T σ F as Q Wx (c ρ μ) → VE X e σ H Q
structure DW (X : Cx) (T : Tb) (e : Expr) (c : EC) : Prop where
  run : ∀ {ρ : Vr} {μ : Mem} {σ : L2.St} {H F : Hp} {as : List Addr}, Mm X.K T μ H F as → EnvR X.K ρ σ F as → ∀ {Q : VK} {Wx : WX}, Takes X Wx → PostW X.K X.mg T σ F as Q Wx (c ρ μ) → VE X e σ H Q
structure DT (X : Cx) (T : Tb) (e : Expr) (c : TC) : Prop where
  run : ∀ {ρ : Vr} {μ : Mem} {σ : L2.St} {H F : Hp} {as : List Addr}, Mm X.K T μ H F as → EnvR X.K ρ σ F as → ∀ {Q : Bool → Hp → Prop} {Wx : WX}, Takes X Wx → PostT X.K X.mg T σ F as Q Wx (c ρ μ) → VT X e σ H Q
/-- a test whatever its whole is -/
structure DU (X : Cx) (T : Tb) (e : Expr) (c : TC) : Prop where
  run : ∀ {ρ : Vr} {μ : Mem} {σ : L2.St} {H F : Hp} {as : List Addr}, Mm X.K T μ H F as → EnvR X.K ρ σ F as → ∀ {Q : Bool → Hp → Prop} {Wx : WX}, Takes X Wx → PostT X.K X.mg T σ F as Q Wx (c ρ μ) → VU X e σ H Q
structure DA (X : Cx) (T : Tb) (es : List Expr) (c : AC) : Prop where
  run : ∀ {ρ : Vr} {μ : Mem} {σ : L2.St} {H F : Hp} {as : List Addr}, Mm X.K T μ H F as → EnvR X.K ρ σ F as → ∀ {Q : List V → Hp → Prop} {Wx : WX}, Takes X Wx → PostA X.K X.mg T σ F as Q Wx (c ρ μ) → VA X es σ H Q

section
variable {X : Cx} {T : Tb} {σ : L2.St} {H F : Hp} {as : List Addr} {ρ : Vr} {μ : Mem}
/-- one after another: the first's end from the whole's -/
theorem e_bind {α : Type} {P : Rs α → Prop} {f : R → Mem → Rs α} {r : Rs R} {Q : VK} {Wx : WX} (hex : ∀ x μ', P (.ex x μ') → PostX X.K X.mg T σ F as Wx x μ') (hno : ¬ P .no) (p : P (r.bind f))
    (k : ∀ a μ', P (f a μ') → ∀ (v : V) (H' F' : Hp) (as' : List Addr), Ext F as F' as' → Mm X.K T μ' H' F' as' → RelR X.K F' as' H' a v → Q v H') : PostE X.K X.mg T σ F as Q Wx r := by
  cases r with
  | ok a μ' => exact k a μ' p
  | ex x μ' => exact hex x μ' p
  | no => exact (hno p).elim
theorem w_bind {α : Type} {P : Rs α → Prop} {f : R → Mem → Rs α} {r : Rs R} {Q : VK} {Wx : WX} (hex : ∀ x μ', P (.ex x μ') → PostX X.K X.mg T σ F as Wx x μ') (hno : ¬ P .no) (p : P (r.bind f))
    (k : ∀ a μ', P (f a μ') → ∀ (v : V) (H' F' : Hp) (as' : List Addr), Ext F as F' as' → Mm X.K T μ' H' F' as' → RelW X.K F' as' a v → Q v H') : PostW X.K X.mg T σ F as Q Wx r := by
  cases r with
  | ok a μ' => exact k a μ' p
  | ex x μ' => exact hex x μ' p
  | no => exact (hno p).elim
theorem t_bind {α : Type} {P : Rs α → Prop} {f : Bool → Mem → Rs α} {r : Rs Bool} {Q : Bool → Hp → Prop} {Wx : WX} (hex : ∀ x μ', P (.ex x μ') → PostX X.K X.mg T σ F as Wx x μ') (hno : ¬ P .no) (p : P (r.bind f))
    (k : ∀ a μ', P (f a μ') → ∀ (H' F' : Hp) (as' : List Addr), Ext F as F' as' → Mm X.K T μ' H' F' as' → Q a H') : PostT X.K X.mg T σ F as Q Wx r := by
  cases r with
  | ok a μ' => exact k a μ' p
  | ex x μ' => exact hex x μ' p
  | no => exact (hno p).elim
theorem a_bind {α : Type} {P : Rs α → Prop} {f : List R → Mem → Rs α} {r : Rs (List R)} {Q : List V → Hp → Prop} {Wx : WX} (hex : ∀ x μ', P (.ex x μ') → PostX X.K X.mg T σ F as Wx x μ') (hno : ¬ P .no) (p : P (r.bind f))
    (k : ∀ a μ', P (f a μ') → ∀ (vs : List V) (H' F' : Hp) (as' : List Addr), Ext F as F' as' → Mm X.K T μ' H' F' as' → RelWs X.K F' as' a vs → Q vs H') : PostA X.K X.mg T σ F as Q Wx r := by
  cases r with
  | ok a μ' => exact k a μ' p
  | ex x μ' => exact hex x μ' p
  | no => exact (hno p).elim
end

def cH (c : EC) : EC := fun ρ μ => (c ρ μ).bind hold
section
variable {X : Cx} {T : Tb} {pos : Pos}
theorem DE.hold {e : Expr} {c : EC} (h : DE X T e c) : DW X T e (cH c) := by
  refine ⟨fun {ρ μ σ H F as} m en {Q Wx} tk p => h.run m en tk (e_bind (P := PostW X.K X.mg T σ F as Q Wx) (fun _ _ p => p) (fun p => p) p fun a μ' p' v H' F' as' ex m' r => ?_)⟩
  cases hh : Em.hold a μ' with
  | ok r' μ2 =>
    rw [hh] at p'
    obtain ⟨F2, as2, e2, m2, r2⟩ := hold_ok m' r hh
    exact p' v H' F2 as2 (ex.trans e2) m2 r2
  | ex x μ2 => cases a <;> cases hh
  | no => cases a <;> cases hh
theorem DW.toE {e : Expr} {c : EC} (h : DW X T e c) : DE X T e c := by
  refine ⟨fun {ρ μ σ H F as} m en {Q Wx} tk p => h.run m en tk ?_⟩
  cases hc : c ρ μ with
  | ok r μ' => rw [hc] at p; exact fun v H' F' as' ex m' r => p v H' F' as' ex m' r.toR
  | ex x μ' => rw [hc] at p; exact p
  | no => rw [hc] at p; exact p

/-! ### names, constants -/
def cV (i : Nat) : EC := fun ρ μ => match ρ[i]? with
  | some (some r) => .ok r μ
  | _ => .no
def cK (x : D) : EC := fun _ μ => .ok (.d x) μ
theorem dw_var (i : Nat) {x : Str} (hN : X.N[i]? = some x := by rfl) (hv : Vis X.env.scope x := by first | exact Or.inl rfl | exact Or.inr (Or.inl rfl) | exact Or.inr (Or.inr rfl)) (hd : (x == ("__debug__" : Str)) = false := by decide)
    (hcd : (x == ("__classdict__" : Str)) = false := by decide) : DW X T (.Name x pos) (cV i) := by
  refine ⟨fun {ρ μ σ H F as} m en {Q Wx} tk p => ve_of (pe_var hN hv hd hcd) ?_⟩
  unfold cV at p
  cases hr : ρ[i]? with
  | none => simp only [hr] at p; exact p.elim
  | some o =>
    cases o with
    | none => simp only [hr] at p; exact p.elim
    | some r =>
      simp only [hr] at p
      obtain ⟨v, h1, h2⟩ := en.2 i r hr
      exact ⟨v, h1, p v H F as (Ext.refl _ _) m h2⟩
theorem dw_const {e : Expr} {v : V} {x : D} (h : PE X e (tC v)) (hd : ∀ F, Dq X.K F v x) : DW X T e (cK x) :=
  ⟨fun {ρ μ σ H F as} m en {Q Wx} tk p => ve_of h (p v H F as (Ext.refl _ _) m (hd F))⟩
theorem dw_int {i : Int} {j : Nat} : DW X T (.Constant (.int i) j pos) (cK (.int i)) := dw_const pe_int fun _ => .int i
theorem dw_bl {i : Bool} {j : Nat} : DW X T (.Constant (.bool i) j pos) (cK (.bool i)) := dw_const pe_bl fun _ => .bl i
theorem dw_non {j : Nat} : DW X T (.Constant .none j pos) (cK .none) := dw_const pe_non fun _ => .non
theorem dw_str {i : Str} {j : Nat} : DW X T (.Constant (.str i) j pos) (cK (.str i)) := dw_const pe_str fun _ => .str i
/-- a constant of the module -/
theorem dw_gInt {x : Str} {i : Int} {t : Tok} (hm : X.mg x = some (.int i t)) (hg : Gl X x := by rfl) (hd : (x == ("__debug__" : Str)) = false := by decide) : DW X T (.Name x pos) (cK (.int i)) := dw_const (pe_glob (v := .int i) hg hm ⟨t, rfl⟩ hd) fun _ => .int i
theorem dw_gStr {x : Str} {i : Str} {t : Tok} (hm : X.mg x = some (.str i t)) (hg : Gl X x := by rfl) (hd : (x == ("__debug__" : Str)) = false := by decide) : DW X T (.Name x pos) (cK (.str i)) := dw_const (pe_glob (v := .str i) hg hm ⟨t, rfl⟩ hd) fun _ => .str i

/-! ### operators -/
structure OpD (X : Cx) (T : Tb) (f : Value → Value → Sem Value) (o : R → R → Mem → Rs R) : Prop where
  run : ∀ {μ : Mem} {H F : Hp} {as : List Addr} {ra rb : R} {x y : V}, Mm X.K T μ H F as → RelW X.K F as ra x → RelW X.K F as rb y → ∀ {σ : L2.St} {Q : VK} {Wx : WX}, PostE X.K X.mg T σ F as Q Wx (o ra rb μ) → ∃ r, OpR X f r ∧ r x y H Q
def rAll2 (X : Cx) (f : Value → Value → Sem Value) : R2 := fun x y H Q => ∃ r, OpR X f r ∧ r x y H Q
theorem all2 {f : Value → Value → Sem Value} : OpR X f (rAll2 X f) := fun pins s σ H x y v u Q I rx ry ⟨r, h, q⟩ => h pins s σ H x y v u Q I rx ry q
def cBin (o : R → R → Mem → Rs R) (ca cb : EC) : EC := fun ρ μ => (ca ρ μ).bind fun ra μ1 => (cb ρ μ1).bind fun rb μ2 => o ra rb μ2
theorem bin_run {a b : Expr} {ca cb : EC} {f : Value → Value → Sem Value} {o : R → R → Mem → Rs R} (ho : OpD X T f o) (ha : DW X T a ca) (hb : DW X T b cb) {ρ : Vr} {μ : Mem} {σ : L2.St} {H F : Hp} {as : List Addr} (m : Mm X.K T μ H F as) (en : EnvR X.K ρ σ F as) {Q : VK} {Wx : WX} (tk : Takes X Wx)
    (p : PostE X.K X.mg T σ F as Q Wx (cBin o ca cb ρ μ)) : tOp (rAll2 X f) (fun σ H Q => VE X a σ H Q) (fun σ H Q => VE X b σ H Q) σ H Q := by
  refine ha.run m en tk (w_bind (P := PostE X.K X.mg T σ F as Q Wx) (fun _ _ p => p) (fun p => p) p fun ra μ1 p1 x H1 F1 as1 e1 m1 r1 => ?_)
  refine hb.run m1 (en.mono e1) tk (w_bind (P := PostE X.K X.mg T σ F1 as1 Q Wx) (fun _ _ p => p) (fun p => p) (p1.ext e1) fun rb μ2 p2 y H2 F2 as2 e2 m2 r2 => ?_)
  exact ho.run m2 (r1.mono e2) r2 (p2.ext e2)
theorem de_bin {op : Operator} {a b : Expr} {ca cb : EC} {o : R → R → Mem → Rs R} (ho : OpD X T (binaryOp op) o) (ha : DW X T a ca) (hb : DW X T b cb) : DE X T (.BinOp a op b pos) (cBin o ca cb) :=
  ⟨fun {_ _ _ _ _ _} m en {_ _} tk p => ve_of (pe_op all2 pe_self pe_self) (bin_run ho ha hb m en tk p)⟩
theorem de_cmp {op : CmpOp} {a b : Expr} {ca cb : EC} {o : R → R → Mem → Rs R} (ho : OpD X T (compareOp op) o) (ha : DW X T a ca) (hb : DW X T b cb) (hm : behindInMarks op b = false := by first | exact nomark _ | rfl) : DE X T (.Compare a [op] [b] pos) (cBin o ca cb) :=
  ⟨fun {_ _ _ _ _ _} m en {_ _} tk p => ve_of (pe_cmpR all2 pe_self pe_self hm) (bin_run ho ha hb m en tk p)⟩
/-- a value that is True or False -/
def bT (r : R) (μ : Mem) : Rs Bool := match r with
  | .d (.bool b) => .ok b μ
  | _ => .no
def cT (c : EC) : TC := fun ρ μ => (c ρ μ).bind bT
theorem t_of_e {ρ : Vr} {μ : Mem} {σ : L2.St} {F : Hp} {as : List Addr} {c : EC} {Q : Bool → Hp → Prop} {Wx : WX} (p : PostT X.K X.mg T σ F as Q Wx (cT c ρ μ)) : PostE X.K X.mg T σ F as (fun x H' => ∃ k, x = .bl k ∧ Q k H') Wx (c ρ μ) := by
  refine e_bind (P := PostT X.K X.mg T σ F as Q Wx) (fun _ _ p => p) (fun p => p) p fun a μ' p' v H' F' as' e' m' r => ?_
  cases a with
  | d x =>
    cases x with
    | bool b => cases r; exact ⟨b, rfl, p' H' F' as' e' m'⟩
    | _ => exact p'.elim
  | _ => exact p'.elim
theorem dt_cmp {op : CmpOp} {a b : Expr} {ca cb : EC} {o : R → R → Mem → Rs R} (ho : OpD X T (compareOp op) o) (ha : DW X T a ca) (hb : DW X T b cb) (hm : behindInMarks op b = false := by first | exact nomark _ | rfl) : DT X T (.Compare a [op] [b] pos) (cT (cBin o ca cb)) :=
  ⟨fun {_ _ _ _ _ _} m en {_ _} tk p => vt_of (pt_cmpR all2 pe_self pe_self hm) (bin_run ho ha hb m en tk (t_of_e p))⟩
theorem dt_val {e : Expr} {c : EC} (h : DE X T e c) (he : ∀ whole, isTrue e X.env whole = (do let v ← whole; standAt e.pos; holding [v] (truthy v)) := by intro _; rfl) : DT X T e (cT c) :=
  ⟨fun {_ _ _ _ _ _} m en {_ _} tk p => vt_of (pt_val pe_self he) (h.run m en tk (t_of_e p))⟩
/-! and, or, not as tests -/
def cAndT (a b : TC) : TC := fun ρ μ => (a ρ μ).bind fun k μ1 => if k = true then b ρ μ1 else .ok false μ1
def cOrT (a b : TC) : TC := fun ρ μ => (a ρ μ).bind fun k μ1 => if k = true then .ok true μ1 else b ρ μ1
def cNotT (a : TC) : TC := fun ρ μ => (a ρ μ).bind fun k μ1 => .ok (!k) μ1
theorem du_and1 {a : Expr} {ca : TC} (ha : DT X T a ca) : DU X T (.BoolOp .And [a] pos) ca := ⟨fun {_ _ _ _ _ _} m en {_ _} tk p => vu_of (pw_and1 pt_self) (ha.run m en tk p)⟩
theorem du_or1 {a : Expr} {ca : TC} (ha : DT X T a ca) : DU X T (.BoolOp .Or [a] pos) ca := ⟨fun {_ _ _ _ _ _} m en {_ _} tk p => vu_of (pw_or1 pt_self) (ha.run m en tk p)⟩
theorem du_and {a b : Expr} {rest : List Expr} {ca cb : TC} (ha : DT X T a ca) (hb : DU X T (.BoolOp .And (b :: rest) pos) cb) : DU X T (.BoolOp .And (a :: b :: rest) pos) (cAndT ca cb) := by
  refine ⟨fun {ρ μ σ H F as} m en {Q Wx} tk p => vu_of (pw_and pt_self pw_self) (ha.run m en tk (t_bind (P := PostT X.K X.mg T σ F as Q Wx) (fun _ _ p => p) (fun p => p) p fun k μ1 p1 H1 F1 as1 e1 m1 => ?_))⟩
  cases k with
  | true => exact hb.run m1 (en.mono e1) tk (p1.ext e1)
  | false => exact p1 H1 F1 as1 e1 m1
theorem du_or {a b : Expr} {rest : List Expr} {ca cb : TC} (ha : DT X T a ca) (hb : DU X T (.BoolOp .Or (b :: rest) pos) cb) : DU X T (.BoolOp .Or (a :: b :: rest) pos) (cOrT ca cb) := by
  refine ⟨fun {ρ μ σ H F as} m en {Q Wx} tk p => vu_of (pw_or pt_self pw_self) (ha.run m en tk (t_bind (P := PostT X.K X.mg T σ F as Q Wx) (fun _ _ p => p) (fun p => p) p fun k μ1 p1 H1 F1 as1 e1 m1 => ?_))⟩
  cases k with
  | true => exact p1 H1 F1 as1 e1 m1
  | false => exact hb.run m1 (en.mono e1) tk (p1.ext e1)
theorem DU.t {e : Expr} {c : TC} (h : DU X T e c) : DT X T e c := ⟨fun {_ _ _ _ _ _} m en {_ _} tk p => vt_of pw_self.pt (h.run m en tk p)⟩
theorem dt_not {a : Expr} {ca : TC} (ha : DT X T a ca) : DT X T (.UnaryOp .Not a pos) (cNotT ca) :=
  ⟨fun {ρ μ σ H F as} m en {Q Wx} tk p => vt_of (pt_not pt_self) (ha.run m en tk (t_bind (P := PostT X.K X.mg T σ F as Q Wx) (fun _ _ p => p) (fun p => p) p fun k μ1 p1 H1 F1 as1 e1 m1 => p1 H1 F1 as1 e1 m1))⟩
/-! .. as values -/
def cAndV (a b : EC) : EC := fun ρ μ => (a ρ μ).bind fun r μ1 => (bT r μ1).bind fun k μ2 => if k = true then b ρ μ2 else .ok (.d (.bool false)) μ2
def cOrV (a b : EC) : EC := fun ρ μ => (a ρ μ).bind fun r μ1 => (bT r μ1).bind fun k μ2 => if k = true then .ok (.d (.bool true)) μ2 else b ρ μ2
def cNotV (a : EC) : EC := fun ρ μ => (a ρ μ).bind fun r μ1 => (bT r μ1).bind fun k μ2 => .ok (.d (.bool (!k))) μ2
theorem de_one {op : BoolOp} {a : Expr} {ca : EC} (ha : DE X T a ca) : DE X T (.BoolOp op [a] pos) ca := ⟨fun {_ _ _ _ _ _} m en {_ _} tk p => ve_of (pe_one pe_self) (ha.run m en tk p)⟩
theorem bT_cases {r : R} {μ : Mem} {α : Type} {P : Rs α → Prop} (hno : ¬ P .no) {f : Bool → Mem → Rs α} (p : P ((bT r μ).bind f)) : ∃ b, r = .d (.bool b) ∧ P (f b μ) := by
  cases r with
  | d x =>
    cases x with
    | bool b => exact ⟨b, rfl, p⟩
    | _ => exact (hno p).elim
  | _ => exact (hno p).elim
theorem de_and {a b : Expr} {rest : List Expr} {ca cb : EC} (ha : DE X T a ca) (hb : DE X T (.BoolOp .And (b :: rest) pos) cb) : DE X T (.BoolOp .And (a :: b :: rest) pos) (cAndV ca cb) := by
  refine ⟨fun {ρ μ σ H F as} m en {Q Wx} tk p => ve_of (pe_and pe_self pe_self) (ha.run m en tk (e_bind (P := PostE X.K X.mg T σ F as Q Wx) (fun _ _ p => p) (fun p => p) p fun r μ1 p1 v H1 F1 as1 e1 m1 r1 => ?_))⟩
  obtain ⟨k, rfl, p2⟩ := bT_cases (P := PostE X.K X.mg T σ F as Q Wx) (fun p => p) p1
  cases r1
  refine ⟨k, rfl, ?_⟩
  cases k with
  | true => exact hb.run m1 (en.mono e1) tk (p2.ext e1)
  | false => exact p2 _ H1 F1 as1 e1 m1 (.bl false)
theorem de_or {a b : Expr} {rest : List Expr} {ca cb : EC} (ha : DE X T a ca) (hb : DE X T (.BoolOp .Or (b :: rest) pos) cb) : DE X T (.BoolOp .Or (a :: b :: rest) pos) (cOrV ca cb) := by
  refine ⟨fun {ρ μ σ H F as} m en {Q Wx} tk p => ve_of (pe_or pe_self pe_self) (ha.run m en tk (e_bind (P := PostE X.K X.mg T σ F as Q Wx) (fun _ _ p => p) (fun p => p) p fun r μ1 p1 v H1 F1 as1 e1 m1 r1 => ?_))⟩
  obtain ⟨k, rfl, p2⟩ := bT_cases (P := PostE X.K X.mg T σ F as Q Wx) (fun p => p) p1
  cases r1
  refine ⟨k, rfl, ?_⟩
  cases k with
  | true => exact p2 _ H1 F1 as1 e1 m1 (.bl true)
  | false => exact hb.run m1 (en.mono e1) tk (p2.ext e1)
theorem de_not {a : Expr} {ca : EC} (ha : DE X T a ca) : DE X T (.UnaryOp .Not a pos) (cNotV ca) := by
  refine ⟨fun {ρ μ σ H F as} m en {Q Wx} tk p => ve_of (pe_not pe_self) (ha.run m en tk (e_bind (P := PostE X.K X.mg T σ F as Q Wx) (fun _ _ p => p) (fun p => p) p fun r μ1 p1 v H1 F1 as1 e1 m1 r1 => ?_))⟩
  obtain ⟨k, rfl, p2⟩ := bT_cases (P := PostE X.K X.mg T σ F as Q Wx) (fun p => p) p1
  cases r1
  exact ⟨k, rfl, p2 _ H1 F1 as1 e1 m1 (.bl _)⟩
def cIf (t : TC) (a b : EC) : EC := fun ρ μ => (t ρ μ).bind fun k μ1 => if k = true then a ρ μ1 else b ρ μ1
theorem de_if {t a b : Expr} {ct : TC} {ca cb : EC} (ht : DT X T t ct) (ha : DE X T a ca) (hb : DE X T b cb) : DE X T (.IfExp t a b pos) (cIf ct ca cb) := by
  refine ⟨fun {ρ μ σ H F as} m en {Q Wx} tk p => ve_of (pe_ifExp pt_self pe_self pe_self) (ht.run m en tk (t_bind (P := PostE X.K X.mg T σ F as Q Wx) (fun _ _ p => p) (fun p => p) p fun k μ1 p1 H1 F1 as1 e1 m1 => ?_))⟩
  cases k with
  | true => exact ha.run m1 (en.mono e1) tk (p1.ext e1)
  | false => exact hb.run m1 (en.mono e1) tk (p1.ext e1)

/-! ### arguments -/
def cNil : AC := fun _ μ => .ok [] μ
def cCons (c : EC) (cs : AC) : AC := fun ρ μ => (c ρ μ).bind fun r μ1 => (cs ρ μ1).bind fun rs μ2 => .ok (r :: rs) μ2
theorem da_nil : DA X T [] cNil := ⟨fun {ρ μ σ H F as} m en {Q Wx} tk p => va_of pa_nil (p [] H F as (Ext.refl _ _) m .nil)⟩
theorem da_cons {e : Expr} {es : List Expr} {c : EC} {cs : AC} (h : DW X T e c) (hs : DA X T es cs) (hst : starEach (e :: es) X.env = (false, eval e X.env) :: starEach es X.env := by rfl) : DA X T (e :: es) (cCons c cs) := by
  refine ⟨fun {ρ μ σ H F as} m en {Q Wx} tk p => va_of (pa_cons pe_self pa_self hst) (h.run m en tk (w_bind (P := PostA X.K X.mg T σ F as Q Wx) (fun _ _ p => p) (fun p => p) p fun r μ1 p1 v H1 F1 as1 e1 m1 r1 => ?_))⟩
  refine hs.run m1 (en.mono e1) tk (a_bind (P := PostA X.K X.mg T σ F1 as1 Q Wx) (fun _ _ p => p) (fun p => p) (p1.ext e1) fun rs μ2 p2 vs H2 F2 as2 e2 m2 r2 => ?_)
  exact p2 _ H2 F2 as2 e2 m2 (.cons (r1.mono e2) r2)
/-- an argument that is kept as data -/
def cD (c : EC) : EC := fun ρ μ => (c ρ μ).bind toD
theorem DE.data {e : Expr} {c : EC} (h : DE X T e c) : DW X T e (cD c) := by
  refine ⟨fun {ρ μ σ H F as} m en {Q Wx} tk p => h.run m en tk (e_bind (P := PostW X.K X.mg T σ F as Q Wx) (fun _ _ p => p) (fun p => p) p fun a μ' p' v H' F' as' ex m' r => ?_)⟩
  cases hh : toD a μ' with
  | ok r' μ2 =>
    rw [hh] at p'
    obtain ⟨F2, d, rfl, e2, m2, r2⟩ := toD_ok m' r hh
    exact p' v H' F2 as' (ex.trans e2) m2 r2
  | ex x μ2 =>
    rw [hh] at p'
    cases a <;> simp only [toD] at hh <;> try cases hh
    split at hh <;> cases hh
  | no => rw [hh] at p'; exact p'.elim

/-! ### calls of what is built in -/
structure CallD (X : Cx) (T : Tb) (f : Value) (o : List R → Mem → Rs R) : Prop where
  run : ∀ {μ : Mem} {H F : Hp} {as : List Addr} {rs : List R} {xs : List V}, Mm X.K T μ H F as → RelWs X.K F as rs xs → ∀ {σ : L2.St} {Q : VK} {Wx : WX}, PostE X.K X.mg T σ F as Q Wx (o rs μ) → ∃ r, CallR X f r ∧ r xs H Q
def rAllC (X : Cx) (f : Value) : List V → Hp → VK → Prop := fun x H Q => ∃ r, CallR X f r ∧ r x H Q
theorem allC {f : Value} : CallR X f (rAllC X f) := fun pins s σ H x v Q I rx ⟨r, h, q⟩ => h pins s σ H x v Q I rx q
def cCall (o : List R → Mem → Rs R) (ca : AC) : EC := fun ρ μ => (ca ρ μ).bind o
theorem de_callB {id : String} {x : Str} {e : Expr} {es : List Expr} {o : List R → Mem → Rs R} {ca : AC} {p : Pos} (hc : CallD X T (.builtin id) o) (hm : X.mg x = none) (ha : DA X T (e :: es) ca) (hv : bootBuiltins x = some (.builtin id) := by decide +kernel) (hg : Gl X x := by rfl) (hn : x ≠ "__name__" := by decide) (hdb : (x == ("__debug__" : Str)) = false := by decide)
    (he : starEach (e :: es) X.env = (false, eval e X.env) :: starEach es X.env := by rfl) (hpl : (backTo pos (starEach es X.env)).any (·.1) = false := by rfl) : DE X T (.Call (.Name x p) (e :: es) [] pos) (cCall o ca) := by
  refine ⟨fun {ρ μ σ H F as} m en {Q Wx} tk p => ve_of (pe_callB allC hg hm hv pa_self hn hdb he hpl) (ha.run m en tk (a_bind (P := PostE X.K X.mg T σ F as Q Wx) (fun _ _ p => p) (fun p => p) p fun rs μ1 p1 vs H1 F1 as1 e1 m1 r1 => ?_))⟩
  exact hc.run m1 r1 (p1.ext e1)
theorem de_callTy {id : String} {x : Str} {e : Expr} {es : List Expr} {o : List R → Mem → Rs R} {ca : AC} {p : Pos} (hc : CallD X T (.type id) o) (hm : X.mg x = none) (ha : DA X T (e :: es) ca) (hv : bootBuiltins x = some (.type id) := by decide +kernel) (hg : Gl X x := by rfl) (hn : x ≠ "__name__" := by decide) (hdb : (x == ("__debug__" : Str)) = false := by decide)
    (he : starEach (e :: es) X.env = (false, eval e X.env) :: starEach es X.env := by rfl) (hpl : (backTo pos (starEach es X.env)).any (·.1) = false := by rfl) : DE X T (.Call (.Name x p) (e :: es) [] pos) (cCall o ca) := by
  refine ⟨fun {ρ μ σ H F as} m en {Q Wx} tk p => ve_of (pe_callTy allC hg hm hv pa_self hn hdb he hpl) (ha.run m en tk (a_bind (P := PostE X.K X.mg T σ F as Q Wx) (fun _ _ p => p) (fun p => p) p fun rs μ1 p1 vs H1 F1 as1 e1 m1 r1 => ?_))⟩
  exact hc.run m1 r1 (p1.ext e1)
/-! ### displays -/
def opTup (rs : List R) (μ : Mem) : Rs R := match rs.mapM (fun r => match r with | .d x => some x | _ => none) with
  | some ds => if ds.length ≤ sizeLine then .ok (.d (.tuple ds)) μ else .no
  | none => .no
def opLst (rs : List R) (μ : Mem) : Rs R := match rs.mapM (fun r => match r with | .d x => some x | _ => none) with
  | some ds => if ds.length ≤ sizeLine then .ok (.fl ds) μ else .no
  | none => .no
theorem mapM_d {K : PySem.W.Frag} {F : Hp} {as : List Addr} : ∀ {rs : List R} {vs : List V} {ds : List D}, RelWs K F as rs vs → rs.mapM (fun r => match r with | .d x => some x | _ => none) = some ds → DqAll K F vs ds
  | _, _, ds, .nil, h => by simp at h; subst h; exact .nil
  | _, _, ds, .cons (r := r) (rs := rs) h t, e => by
    rw [List.mapM_cons] at e
    cases r with
    | d x =>
      simp only [Option.bind_eq_bind, Option.bind_some] at e
      cases hh : rs.mapM (fun r => match r with | .d x => some x | _ => none) with
      | none => rw [hh] at e; cases e
      | some es => rw [hh] at e; cases e; exact .cons h (mapM_d t hh)
    | c n => cases e
    | fl ds => cases e
    | fk ds => cases e
    | o b => cases e
theorem de_tup {es : List Expr} {ca : AC} {k : Nat} (ha : DA X T es ca) : DE X T (.Tuple es k pos) (cCall opTup ca) := by
  refine ⟨fun {ρ μ σ H F as} m en {Q Wx} tk p => ve_of (pe_tup pa_self) (ha.run m en tk (a_bind (P := PostE X.K X.mg T σ F as Q Wx) (fun _ _ p => p) (fun p => p) p fun rs μ1 p1 vs H1 F1 as1 e1 m1 r1 => ?_))⟩
  unfold opTup at p1
  split at p1
  · rename_i ds hds
    have hd := mapM_d r1 hds
    have hl := hd.length
    split at p1
    · rename_i hle
      refine ⟨by rw [hl]; exact hle, fun q hq => ?_⟩
      have hF := m1.freeF hq
      exact p1 _ _ (upd F1 q (.tup vs)) as1 (e1.trans (Ext.new hF)) ((m1.alloc hq).freeze hF upd_same (m1.notin hq) (fun ps z => by cases z)) (.tup (.inl (.inl upd_same)) (DqAll_mono (same_new hF) hd))
    · exact p1.elim
  · exact p1.elim
theorem de_lst {es : List Expr} {ca : AC} (ha : DA X T es ca) : DE X T (.List es pos) (cCall opLst ca) := by
  refine ⟨fun {ρ μ σ H F as} m en {Q Wx} tk p => ve_of (pe_lst pa_self) (ha.run m en tk (a_bind (P := PostE X.K X.mg T σ F as Q Wx) (fun _ _ p => p) (fun p => p) p fun rs μ1 p1 vs H1 F1 as1 e1 m1 r1 => ?_))⟩
  unfold opLst at p1
  split at p1
  · rename_i ds hds
    have hd := mapM_d r1 hds
    have hl := hd.length
    split at p1
    · rename_i hle
      refine ⟨by rw [hl]; exact hle, fun q hq => ?_⟩
      exact p1 _ _ F1 as1 e1 (m1.alloc hq) ⟨q, vs, rfl, m1.notin hq, m1.freeF hq, upd_same, hd⟩
    · exact p1.elim
  · exact p1.elim
end
end Em
set_option maxRecDepth 100000
namespace Em
open PySem PySem.Spec PyProof.Rows L2

section
variable {X : Cx} {T : Tb} {pos : Pos}
/-! ### subscripts, slices -/
structure IxD (X : Cx) (T : Tb) (o : R → R → Mem → Rs R) : Prop where
  run : ∀ {μ : Mem} {H F : Hp} {as : List Addr} {ra rb : R} {x y : V}, Mm X.K T μ H F as → RelW X.K F as ra x → RelW X.K F as rb y → ∀ {σ : L2.St} {Q : VK} {Wx : WX}, PostE X.K X.mg T σ F as Q Wx (o ra rb μ) → ∃ r, IxR X r ∧ r x y H Q
def rAllI (X : Cx) : R2 := fun x y H Q => ∃ r, IxR X r ∧ r x y H Q
theorem allI : IxR X (rAllI X) := fun value slice pins s σ H x y v u Q I rx ry ⟨r, h, q⟩ => h value slice pins s σ H x y v u Q I rx ry q
theorem de_ix {a b : Expr} {ca cb : EC} {o : R → R → Mem → Rs R} (ho : IxD X T o) (ha : DW X T a ca) (hb : DW X T b cb) (hs : PlainIx b := by intro _ _; rfl) : DE X T (.Subscript a b pos) (cBin o ca cb) := by
  refine ⟨fun {ρ μ σ H F as} m en {Q Wx} tk p => ve_of (pe_ix allI pe_self pe_self hs) ?_⟩
  refine ha.run m en tk (w_bind (P := PostE X.K X.mg T σ F as Q Wx) (fun _ _ p => p) (fun p => p) p fun ra μ1 p1 x H1 F1 as1 e1 m1 r1 => ?_)
  refine hb.run m1 (en.mono e1) tk (w_bind (P := PostE X.K X.mg T σ F1 as1 Q Wx) (fun _ _ p => p) (fun p => p) (p1.ext e1) fun rb μ2 p2 y H2 F2 as2 e2 m2 r2 => ?_)
  exact ho.run m2 (r1.mono e2) r2 (p2.ext e2)
def opIx (ra rb : R) (μ : Mem) : Rs R := match see rb μ with
  | some (.int i) => match see ra μ with
    | some (.list ds) => match atI ds i with
      | some d => .ok (.d d) μ
      | none => .no
    | some (.tuple ds) => match atI ds i with
      | some d => .ok (.d d) μ
      | none => .no
    | some (.str z) => if z.length ≤ sizeLine then (match atI z.cps.toList i with
      | some c => .ok (.d (.str ⟨#[c]⟩)) μ
      | none => .no) else .no
    | _ => .no
  | _ => .no
theorem atI_all {K : PySem.W.Frag} {F : Hp} {vs : List V} {ds : List D} {i : Int} {d : D} (h : DqAll K F vs ds) (e : atI ds i = some d) : ∃ v, atI vs i = some v ∧ Dq K F v d := by
  unfold atI at e ⊢
  rw [h.length]
  cases hi : ixN ds.length i with
  | none => rw [hi] at e; cases e
  | some j => rw [hi] at e; exact h.get e
theorem ix_all : IxD X T opIx := by
  refine ⟨fun {μ H F as ra rb x y} m r1 r2 {σ Q Wx} p => ?_⟩
  unfold opIx at p
  split at p
  · rename_i i hi
    obtain rfl := see_int r2 hi
    split at p
    · rename_i ds hds
      obtain ⟨a, vs, rfl, hL, hd⟩ := see_list m r1 hds
      split at p
      · rename_i d hd'
        obtain ⟨v, hv, dv⟩ := atI_all hd hd'
        exact ⟨_, ix_list, a, vs, i, v, rfl, rfl, .inl hL, hv, p v H F as (Ext.refl _ _) m dv⟩
      · exact p.elim
    · rename_i ds hds
      obtain ⟨a, vs, rfl, hL, _, hd⟩ := see_tup m r1 hds
      split at p
      · rename_i d hd'
        obtain ⟨v, hv, dv⟩ := atI_all hd hd'
        exact ⟨_, ix_tup, a, vs, i, v, rfl, rfl, hL, hv, p v H F as (Ext.refl _ _) m dv⟩
      · exact p.elim
    · rename_i z hz
      obtain rfl := see_str r1 hz
      split at p
      · rename_i hl
        split at p
        · rename_i c hc
          exact ⟨_, ix_str, z, i, c, rfl, rfl, hl, hc, p _ H F as (Ext.refl _ _) m (.str _)⟩
        · exact p.elim
      · exact p.elim
    · exact p.elim
  · exact p.elim
/-! slices -/
def cutD {α : Type} (xs : List α) (lo hi : Option Int) : List α := (xs.drop (HT.sIx xs.length 0 lo)).take (HT.sIx xs.length xs.length hi - HT.sIx xs.length 0 lo)
theorem cutD_all {K : PySem.W.Frag} {F : Hp} {vs : List V} {ds : List D} {lo hi : Option Int} (h : DqAll K F vs ds) : DqAll K F (cutV vs lo hi) (cutD ds lo hi) := by
  unfold cutV cutD
  rw [h.length]
  exact (h.drop _).take _
abbrev PC' := Vr → Mem → Rs (Option Int)
def PostP (K : PySem.W.Frag) (mg : Str → Option Value) (T : Tb) (σ : L2.St) (F : Hp) (as : List Addr) (Q : Option Int → Hp → Prop) (Wx : WX) : Rs (Option Int) → Prop
  | .ok b μ' => ∀ (H' F' : Hp) (as' : List Addr), Ext F as F' as' → Mm K T μ' H' F' as' → Q b H'
  | .ex x μ' => PostX K mg T σ F as Wx x μ'
  | .no => False
theorem PostP.ext {σ : L2.St} {F F1 : Hp} {as as1 : List Addr} {Q : Option Int → Hp → Prop} {Wx : WX} {r : Rs (Option Int)} (p : PostP X.K X.mg T σ F as Q Wx r) (e : Ext F as F1 as1) : PostP X.K X.mg T σ F1 as1 Q Wx r := by
  cases r with
  | ok r μ' => exact fun H' F' as' e' m => p H' F' as' (e.trans e') m
  | ex x μ' => exact PostX.ext p e
  | no => exact p
structure DP (X : Cx) (T : Tb) (e : Option Expr) (c : PC') : Prop where
  run : ∃ t : TO, PO X e t ∧ ∀ {ρ : Vr} {μ : Mem} {σ : L2.St} {H F : Hp} {as : List Addr}, Mm X.K T μ H F as → EnvR X.K ρ σ F as → ∀ {Q : Option Int → Hp → Prop} {Wx : WX}, Takes X Wx → PostP X.K X.mg T σ F as Q Wx (c ρ μ) → t σ H Q
def cNoPart : PC' := fun _ μ => .ok none μ
def iP (r : R) (μ : Mem) : Rs (Option Int) := match r with
  | .d (.int i) => .ok (some i) μ
  | _ => .no
def cPart (c : EC) : PC' := fun ρ μ => (c ρ μ).bind iP
theorem dp_none : DP X T none cNoPart := ⟨_, po_none, fun {ρ μ σ H F as} m en {Q Wx} tk p => p H F as (Ext.refl _ _) m⟩
theorem dp_some {e : Expr} {c : EC} (h : DE X T e c) : DP X T (some e) (cPart c) := by
  refine ⟨_, po_some pe_self, fun {ρ μ σ H F as} m en {Q Wx} tk p => h.run m en tk (e_bind (P := PostP X.K X.mg T σ F as Q Wx) (fun _ _ p => p) (fun p => p) p fun r μ1 p1 v H1 F1 as1 e1 m1 r1 => ?_)⟩
  cases r with
  | d x =>
    cases x with
    | int i => cases r1; exact ⟨i, rfl, p1 H1 F1 as1 e1 m1⟩
    | _ => exact p1.elim
  | _ => exact p1.elim
def opSl (ra : R) (lo hi : Option Int) (μ : Mem) : Rs R := match see ra μ with
  | some (.list ds) => .ok (.fl (cutD ds lo hi)) μ
  | some (.tuple ds) => .ok (.d (.tuple (cutD ds lo hi))) μ
  | some (.str z) => if z.length ≤ sizeLine then .ok (.d (.str (cutS z lo hi))) μ else .no
  | _ => .no
def rAllS (X : Cx) : V → Option Int → Option Int → Hp → VK → Prop := fun x lo hi H Q => ∃ r, SlR X r ∧ r x lo hi H Q
theorem allS : L2.SlR X (rAllS X) := fun pins s σ H x v vl vu lo hi sl Q I rx hs pl pu ⟨r, h, q⟩ => h pins s σ H x v vl vu lo hi sl Q I rx hs pl pu q
def cSl (c : EC) (l h : PC') : EC := fun ρ μ => (c ρ μ).bind fun ra μ1 => (l ρ μ1).bind fun lo μ2 => (h ρ μ2).bind fun hi μ3 => opSl ra lo hi μ3
theorem p_bind {α : Type} {P : Rs α → Prop} {f : Option Int → Mem → Rs α} {r : Rs (Option Int)} {Q : Option Int → Hp → Prop} {Wx : WX} {σ : L2.St} {F : Hp} {as : List Addr} (hex : ∀ x μ', P (.ex x μ') → PostX X.K X.mg T σ F as Wx x μ') (hno : ¬ P .no) (p : P (r.bind f))
    (k : ∀ a μ', P (f a μ') → ∀ (H' F' : Hp) (as' : List Addr), Ext F as F' as' → Mm X.K T μ' H' F' as' → Q a H') : PostP X.K X.mg T σ F as Q Wx r := by
  cases r with
  | ok a μ' => exact k a μ' p
  | ex x μ' => exact hex x μ' p
  | no => exact (hno p).elim
theorem cutD_len {α : Type} (xs : List α) (lo hi : Option Int) : (cutD xs lo hi).length ≤ xs.length := by
  unfold cutD
  rw [List.length_take, List.length_drop]
  omega
theorem cutV_whole {xs : List V} {lo hi : Option Int} (h : HT.sIx xs.length 0 lo = 0 ∧ HT.sIx xs.length xs.length hi = xs.length) : cutV xs lo hi = xs := by
  unfold cutV
  rw [h.1, h.2]
  simp
theorem de_sl {e : Expr} {lo hi : Option Expr} {c : EC} {cl ch : PC'} {p2 : Pos} (he : DW X T e c) (hl : DP X T lo cl) (hh : DP X T hi ch) : DE X T (.Subscript e (.Slice lo hi none p2) pos) (cSl c cl ch) := by
  obtain ⟨tl, pl, gl⟩ := hl
  obtain ⟨th, ph, gh⟩ := hh
  refine ⟨fun {ρ μ σ H F as} m en {Q Wx} tk p => ve_of (pe_slice allS pe_self pl ph) ?_⟩
  refine he.run m en tk (w_bind (P := PostE X.K X.mg T σ F as Q Wx) (fun _ _ p => p) (fun p => p) p fun ra μ1 p1 x H1 F1 as1 e1 m1 r1 => ?_)
  refine gl m1 (en.mono e1) tk (p_bind (P := PostE X.K X.mg T σ F1 as1 Q Wx) (fun _ _ p => p) (fun p => p) (p1.ext e1) fun lo' μ2 p2 H2 F2 as2 e2 m2 => ?_)
  refine gh m2 (en.mono (e1.trans e2)) tk (p_bind (P := PostE X.K X.mg T σ F2 as2 Q Wx) (fun _ _ p => p) (fun p => p) (p2.ext e2) fun hi' μ3 p3 H3 F3 as3 e3 m3 => ?_)
  have r3 := r1.mono (e2.trans e3)
  have p4 := p3.ext e3
  unfold opSl at p4
  split at p4
  · rename_i ds hds
    obtain ⟨a, vs, rfl, hL, hd⟩ := see_list m3 r3 hds
    exact ⟨_, sl_list, a, vs, rfl, .inl hL, fun q hq => p4 _ _ F3 as3 (Ext.refl _ _) (m3.alloc hq) ⟨q, _, rfl, m3.notin hq, m3.freeF hq, upd_same, cutD_all hd⟩⟩
  · rename_i ds hds
    obtain ⟨a, vs, rfl, hL, hLF, hd⟩ := see_tup m3 r3 hds
    refine ⟨_, sl_tupA, a, vs, rfl, hL, fun hw => ?_, fun hw q hq => ?_⟩
    · have z := cutD_all (lo := lo') (hi := hi') hd
      rw [cutV_whole hw] at z
      exact p4 _ _ F3 as3 (Ext.refl _ _) m3 (.tup hLF z)
    · have hF := m3.freeF hq
      exact p4 _ _ _ as3 (Ext.new hF) ((m3.alloc hq).freeze hF upd_same (m3.notin hq) (fun ps z => by cases z)) (.tup (.inl (.inl upd_same)) (DqAll_mono (same_new hF) (cutD_all hd)))
  · rename_i z hz
    obtain rfl := see_str r3 hz
    split at p4
    · rename_i hle
      exact ⟨_, sl_str, z, rfl, hle, p4 _ _ F3 as3 (Ext.refl _ _) m3 (.str _)⟩
    · exact p4.elim
  · exact p4.elim

/-! ### methods of what is built in -/
structure MtD (X : Cx) (T : Tb) (Ty : String) (id : String) (o : R → List R → Mem → Rs R) : Prop where
  run : ∀ {μ : Mem} {H F : Hp} {as : List Addr} {r : R} {rs : List R} {x : V} {xs : List V}, Mm X.K T μ H F as → RelW X.K F as r x → RelWs X.K F as rs xs → ∀ {σ : L2.St} {Q : VK} {Wx : WX}, PostE X.K X.mg T σ F as Q Wx (o r rs μ) → ∃ q, MtR X id q ∧ q x xs H Q
def rAllM (X : Cx) (id : String) : V → List V → Hp → VK → Prop := fun x xs H Q => ∃ r, MtR X id r ∧ r x xs H Q
theorem allM {id : String} : MtR X id (rAllM X id) := fun pins s σ H x xs v us Q I rx rs ⟨r, h, q⟩ => h pins s σ H x xs v us Q I rx rs q
/-- of that type, now -/
def isTy (Ty : String) (r : R) (μ : Mem) : Bool := match r with
  | .d (.list _) => Ty == "list"
  | .d (.str _) => Ty == "str"
  | .d (.int _) => Ty == "int"
  | .c n => match μ[n]? with
    | some (.dk _) => Ty == "dict"
    | some _ => Ty == "list"
    | none => false
  | _ => false
theorem isTy_ok {Ty : String} {μ : Mem} {H F : Hp} {as : List Addr} {r : R} {x : V} (m : Mm X.K T μ H F as) (h : RelW X.K F as r x) (e : isTy Ty r μ = true) : tyV X.K Ty x H := by
  cases r with
  | d d =>
    cases d with
    | list ds => cases h with
      | lst h1 h2 => exact .inl ⟨eq_of_beq (show (Ty == "list") = true from e), _, .inl (Rd_mono m.same h1)⟩
    | str z => cases h; exact eq_of_beq (show (Ty == "str") = true from e)
    | int z => cases h; exact eq_of_beq (show (Ty == "int") = true from e)
    | none => exact absurd e (by simp [isTy])
    | bool b => exact absurd e (by simp [isTy])
    | tuple b => exact absurd e (by simp [isTy])
    | dict b => exact absurd e (by simp [isTy])
  | c n =>
    obtain ⟨a, ha, rfl⟩ := h
    unfold isTy at e
    cases hc : μ[n]? with
    | none => simp only [hc] at e; exact absurd e (by decide)
    | some c =>
      have q := m.cell n c a hc ha
      cases c with
      | lst ds => simp only [hc] at e; obtain ⟨_, vs, h1, _⟩ := q; exact .inl ⟨eq_of_beq e, vs, .inl (.inl h1)⟩
      | frz ds => simp only [hc] at e; obtain ⟨vs, h1, _⟩ := q; exact .inl ⟨eq_of_beq e, vs, .inl (.inl (m.same _ _ h1))⟩
      | dk kvs => simp only [hc] at e; obtain ⟨_, kv, h1, _⟩ := q; exact .inr (.inr (.inl ⟨eq_of_beq e, .inl ⟨kv, h1⟩⟩))
  | fl ds => exact h.elim
  | fk ds => exact h.elim
  | o b => exact absurd e (by simp [isTy])
def cMt (Ty : String) (o : R → List R → Mem → Rs R) (c : EC) (ca : AC) : EC := fun ρ μ => (c ρ μ).bind fun r μ1 => if isTy Ty r μ1 = true then (ca ρ μ1).bind fun rs μ2 => o r rs μ2 else .no
theorem de_mt {Ty id : String} {name : Str} {ob e : Expr} {es : List Expr} {o : R → List R → Mem → Rs R} {c : EC} {ca : AC} {apos : Pos} (hm : MtD X T Ty id o) (ho : DW X T ob c) (ha : DA X T (e :: es) ca)
    (pa : PlainAttrs Ty) (slot : Slot Ty name id) (hty : typeOf (.builtin id) = pure (.type "method_descriptor"))
    (hbase : attributeBase ob name X.env (eval ob X.env) = eval ob X.env := by rfl)
    (hfew : ((backTo pos (starEach (e :: es) X.env)).all (fun x => !x.1) && (backToKw pos (keywordEach [] X.env)).all (fun x => x.1.isSome)
      && decide ((e :: es).length + ([] : List Keyword).length + (if ([] : List Keyword).isEmpty then 0 else 1) < 30)) = true := by rfl)
    (hline : (apos.endLine == pos.line) = true := by rfl) (hs : starEach (e :: es) X.env = (false, eval e X.env) :: starEach es X.env := by rfl) (hplain : (backTo pos (starEach es X.env)).any (·.1) = false := by rfl) :
    DE X T (.Call (.Attribute ob name apos) (e :: es) [] pos) (cMt Ty o c ca) := by
  refine ⟨fun {ρ μ σ H F as} m en {Q Wx} tk p => ve_of (pe_bm pa slot hty allM pe_self pa_self hbase hfew hline hs hplain) ?_⟩
  refine ho.run m en tk (w_bind (P := PostE X.K X.mg T σ F as Q Wx) (fun _ _ p => p) (fun p => p) p fun r μ1 p1 x H1 F1 as1 e1 m1 r1 => ?_)
  split at p1
  · rename_i hi
    refine ⟨isTy_ok m1 r1 hi, ha.run m1 (en.mono e1) tk (a_bind (P := PostE X.K X.mg T σ F1 as1 Q Wx) (fun _ _ p => p) (fun p => p) (p1.ext e1) fun rs μ2 p2 xs H2 F2 as2 e2 m2 r2 => ?_)⟩
    exact hm.run m2 (r1.mono e2) r2 (p2.ext e2)
  · exact p1.elim
theorem de_mt0 {Ty id : String} {name : Str} {ob : Expr} {o : R → List R → Mem → Rs R} {c : EC} {apos : Pos} (hm : MtD X T Ty id o) (ho : DW X T ob c)
    (pa : PlainAttrs Ty) (slot : Slot Ty name id) (hty : typeOf (.builtin id) = pure (.type "method_descriptor"))
    (hbase : attributeBase ob name X.env (eval ob X.env) = eval ob X.env := by rfl) (hline : (apos.endLine == pos.line) = true := by rfl) :
    DE X T (.Call (.Attribute ob name apos) [] [] pos) (cMt Ty o c cNil) := by
  refine ⟨fun {ρ μ σ H F as} m en {Q Wx} tk p => ve_of (pe_bm0 pa slot hty allM pe_self hbase hline) ?_⟩
  refine ho.run m en tk (w_bind (P := PostE X.K X.mg T σ F as Q Wx) (fun _ _ p => p) (fun p => p) p fun r μ1 p1 x H1 F1 as1 e1 m1 r1 => ?_)
  split at p1
  · rename_i hi
    exact ⟨isTy_ok m1 r1 hi, hm.run m1 r1 .nil (show PostE X.K X.mg T σ F1 as1 Q Wx (o r [] μ1) from PostE.ext p1 e1)⟩
  · exact p1.elim
end

end Em
set_option maxRecDepth 100000
namespace Em
open PySem PySem.Spec PyProof.Rows L2

/-! ### defs -/
abbrev Fn := List R → Mem → Rs R
/-- what a call of a def promises -/
def spOf (T : Tb) (K : PySem.W.Frag) (mg : Str → Option Value) (n : Nat) (φ : Fn) : Sp := fun vs H Q E => vs.length = n ∧ ∃ ws μ F as, Mm K T μ H F as ∧ RelWs K F as ws vs ∧
  match φ ws μ with
  | .ok r μ' => ∀ (v : V) (H' F' : Hp), Same F F' → Mm K T μ' H' F' as → RelR K F' as H' r v → Q v H'
  | .ex x μ' => ∀ (cls : Value) (d : Option Addr) (H' F' : Hp), Same F F' → Mm K T μ' H' F' as → XRel K mg F' x cls d H' → E cls d H'
  | .no => False
/-- a def that may be called: its name, how many parameters, its level, what it does -/
structure Callee (P : Program) (w : World) (K : PySem.W.Frag) (mg : Str → Option Value) (base : Heap) (T : Tb) (x : Str) (n k : Nat) (φ : Fn) : Prop where
  ex : ∃ (f : Addr) (fd : FuncData) (ps : List Str), FnOk P w K mg base (L2.CX P w) k f fd ps (spOf T K mg n φ) ∧ mg x = some (.ref f) ∧ PySem.W.keepIn K (.ref f) = true ∧ Binds K fd ps []
theorem Ext.eqv {F F' : Hp} {as : List Addr} (e : Same F F') : Ext F as F' as := ⟨e, [], (List.append_nil as).symm⟩
section
variable {X : Cx} {T : Tb} {pos : Pos}
theorem call_sp {n : Nat} {φ : Fn} {Wx : WX} {Q : VK} {σ : L2.St} {rs : List R} {vs : List V} {μ : Mem} {H F : Hp} {as : List Addr} (m : Mm X.K T μ H F as) (r : RelWs X.K F as rs vs) (hn : rs.length = n) (p : PostE X.K X.mg T σ F as Q Wx (φ rs μ)) :
    spOf T X.K X.mg n φ vs H Q (fun cls d H' => Wx cls d σ H') := by
  refine ⟨by rw [r.length, hn], rs, μ, F, as, m, r, ?_⟩
  cases hφ : φ rs μ with
  | ok a μ' => rw [hφ] at p; exact fun v H' F' s m' q => p v H' F' as (Ext.eqv s) m' q
  | ex x μ' => rw [hφ] at p; exact fun cls d H' F' s m' q => p cls d H' F' as (Ext.eqv s) m' q
  | no => rw [hφ] at p; exact p
/-- f(..) -/
def cFn (n : Nat) (φ : Fn) (ca : AC) : EC := fun ρ μ => (ca ρ μ).bind fun rs μ1 => if rs.length = n then φ rs μ1 else .no
/-- the callee's run, what it lets out being asked of this very state -/
theorem run_at {sp : Sp} {k : Nat} {f : Addr} {fd : FuncData} {ps : List Str} {E : XK} {pins : List (Addr × Obj)} {σ : L2.St} {H : Hp} {s : Shared} {Q : VK} {us : List Value} {vs : List V}
    (G : FnOk X.prog X.w X.K X.mg X.base (L2.CX X.prog X.w) k f fd ps sp) (room : Room k X.A) (bd : Binds X.K fd ps []) (out : ∀ e s', L2.CX X.prog X.w X.stack H s E e s' → X.xe e s') (I : Inv X pins σ H s) (rel : Vals vs us) (q : sp vs H Q E) :
    wpAny (model X.prog X.w) X.A (call (.ref f) us) (EP X pins σ Q) X.xe s := by
  have len : (us ++ []).length = ps.length := by rw [List.append_nil, ← rel.length]; exact G.len _ _ _ _ q
  have bt := bd s us I.kIn len
  rw [List.append_nil] at bt
  have go := G.run X.A X.stack s H ⟨us, []⟩ us vs Q E room I.env0 bt rel q
  refine wpAny_call (codeAny_mono go ?_)
  intro res s' hres
  match res, hres with
  | .error e, hres => exact out e s' hres
  | .ok (.ret u), hres => exact I.after hres
  | .ok .next, hres => exact hres.elim
  | .ok .brk, hres => exact hres.elim
  | .ok .cont, hres => exact hres.elim
theorem de_fn {x : Str} {n k k' : Nat} {φ : Fn} {p : Pos} {e : Expr} {es : List Expr} {ca : AC} (G : Callee X.prog X.w X.K X.mg X.base T x n k φ) (hr : Room k' X.A) (ha : DA X T (e :: es) ca) (hk : k ≤ k' := by decide) (hg : Gl X x := by rfl)
    (hdb : (x == ("__debug__" : Str)) = false := by decide) (he : starEach (e :: es) X.env = (false, eval e X.env) :: starEach es X.env := by rfl) (hpl : (backTo pos (starEach es X.env)).any (·.1) = false := by rfl) : DE X T (.Call (.Name x p) (e :: es) [] pos) (cFn n φ ca) := by
  obtain ⟨f, fd, ps, FO, gm, kp, bd⟩ := G.ex
  refine ⟨fun {ρ μ σ H F as} m en {Q Wx} tk pp => ?_⟩
  have va := ha.run m en tk (a_bind (P := PostE X.K X.mg T σ F as Q Wx) (Q := fun vs H1 => spOf T X.K X.mg n φ vs H1 Q (fun cls d H' => Wx cls d σ H')) (fun _ _ p => p) (fun p => p) pp fun rs μ1 p1 vs H1 F1 as1 e1 m1 r1 => by
    by_cases hn : rs.length = n
    · rw [if_pos hn] at p1; exact call_sp m1 r1 hn (p1.ext e1)
    · rw [if_neg hn] at p1; exact p1.elim)
  intro pins s I
  refine wpAny_Call_Name_kw (ld_glob I hg gm ?_ hdb)
  refine PySem.W.callWith_K (h₀ := X.base) I.ok.mod.kin kp (thn (va pos pins s I) ?_) he hpl
  rintro us s1 ⟨vs, H1, I1, r, q⟩
  exact ⟨I1.kIn, run_at FO (hr.mono hk) bd (fun e s' c => tk e s' (XE.of_call I1 (fun cls d H' h => h) c)) I1 r q⟩
theorem de_fn0 {x : Str} {k k' : Nat} {φ : Fn} {p : Pos} (G : Callee X.prog X.w X.K X.mg X.base T x 0 k φ) (hr : Room k' X.A) (hk : k ≤ k' := by decide) (hg : Gl X x := by rfl)
    (hdb : (x == ("__debug__" : Str)) = false := by decide) : DE X T (.Call (.Name x p) [] [] pos) (cFn 0 φ cNil) := by
  obtain ⟨f, fd, ps, FO, gm, kp, bd⟩ := G.ex
  refine ⟨fun {ρ μ σ H F as} m en {Q Wx} tk pp => ?_⟩
  intro pins s I
  refine wpAny_Call_Name_kw (ld_glob I hg gm ?_ hdb)
  exact PySem.W.callWith_K0 I.kIn kp (run_at FO (hr.mono hk) bd (fun e s' c => tk e s' (XE.of_call I (fun cls d H' h => h) c)) I .nil (call_sp m .nil rfl pp))
end

/-! ### statements -/
inductive Out where
  | nx (ρ : Vr) (μ : Mem)
  | rt (r : R) (μ : Mem)
  | bk (ρ : Vr) (μ : Mem)
  | ct (ρ : Vr) (μ : Mem)
  | ex (x : Ex) (ρ : Vr) (μ : Mem)
  | no
abbrev SC := Vr → Mem → Out
def PostS (K : PySem.W.Frag) (mg : Str → Option Value) (T : Tb) (F : Hp) (as : List Addr) (D : Ends) (Wx : WX) : Out → Prop
  | .nx ρ μ => ∀ (σ' : L2.St) (H' F' : Hp) (as' : List Addr), Ext F as F' as' → Mm K T μ H' F' as' → EnvR K ρ σ' F' as' → D.nx σ' H'
  | .bk ρ μ => ∀ (σ' : L2.St) (H' F' : Hp) (as' : List Addr), Ext F as F' as' → Mm K T μ H' F' as' → EnvR K ρ σ' F' as' → D.bk σ' H'
  | .ct ρ μ => ∀ (σ' : L2.St) (H' F' : Hp) (as' : List Addr), Ext F as F' as' → Mm K T μ H' F' as' → EnvR K ρ σ' F' as' → D.ct σ' H'
  | .rt r μ => ∀ (v : V) (H' F' : Hp) (as' : List Addr), Ext F as F' as' → Mm K T μ H' F' as' → RelR K F' as' H' r v → D.rt v H'
  | .ex x ρ μ => ∀ (cls : Value) (d : Option Addr) (σ' : L2.St) (H' F' : Hp) (as' : List Addr), Ext F as F' as' → Mm K T μ H' F' as' → EnvR K ρ σ' F' as' → XRel K mg F' x cls d H' → Wx cls d σ' H'
  | .no => False
theorem PostS.ext {K : PySem.W.Frag} {mg : Str → Option Value} {T : Tb} {F F1 : Hp} {as as1 : List Addr} {D : Ends} {Wx : WX} {o : Out} (p : PostS K mg T F as D Wx o) (e : Ext F as F1 as1) : PostS K mg T F1 as1 D Wx o := by
  cases o with
  | nx ρ μ => exact fun σ' H' F' as' e' => p σ' H' F' as' (e.trans e')
  | bk ρ μ => exact fun σ' H' F' as' e' => p σ' H' F' as' (e.trans e')
  | ct ρ μ => exact fun σ' H' F' as' e' => p σ' H' F' as' (e.trans e')
  | rt r μ => exact fun v H' F' as' e' => p v H' F' as' (e.trans e')
  | ex x ρ μ => exact fun cls d σ' H' F' as' e' => p cls d σ' H' F' as' (e.trans e')
  | no => exact p
structure DS (X : Cx) (T : Tb) (st : Stmt) (c : SC) : Prop where
  run : ∀ {ρ : Vr} {μ : Mem} {σ : L2.St} {H F : Hp} {as : List Addr}, Mm X.K T μ H F as → EnvR X.K ρ σ F as → ∀ {D : Ends} {Wx : WX}, Takes X Wx → PostS X.K X.mg T F as D Wx (c ρ μ) → VS X st σ H D
structure DB (X : Cx) (T : Tb) (st : List Stmt) (c : SC) : Prop where
  run : ∀ {ρ : Vr} {μ : Mem} {σ : L2.St} {H F : Hp} {as : List Addr}, Mm X.K T μ H F as → EnvR X.K ρ σ F as → ∀ {D : Ends} {Wx : WX}, Takes X Wx → PostS X.K X.mg T F as D Wx (c ρ μ) → VB X st σ H D
/-- an expression's end, then the rest -/
def Rs.thenS {α : Type} (r : Rs α) (ρ : Vr) (f : α → Mem → Out) : Out := match r with
  | .ok a μ => f a μ
  | .ex x μ => .ex x ρ μ
  | .no => .no
section
variable {X : Cx} {T : Tb} {σ : L2.St} {H F : Hp} {as : List Addr} {ρ : Vr} {μ : Mem} {pos : Pos}
theorem postx_of {K : PySem.W.Frag} {mg : Str → Option Value} {D : Ends} {Wx : WX} {x : Ex} {μ' : Mem} (en : EnvR K ρ σ F as) (p : PostS K mg T F as D Wx (.ex x ρ μ')) : PostX K mg T σ F as Wx x μ' :=
  fun cls d H' F' as' e m r => p cls d σ H' F' as' e m (en.mono e) r
theorem e_then {K : PySem.W.Frag} {mg : Str → Option Value} {f : R → Mem → Out} {r : Rs R} {Q : VK} {D : Ends} {Wx : WX} (en : EnvR K ρ σ F as) (p : PostS K mg T F as D Wx (r.thenS ρ f))
    (k : ∀ a μ', PostS K mg T F as D Wx (f a μ') → ∀ (v : V) (H' F' : Hp) (as' : List Addr), Ext F as F' as' → Mm K T μ' H' F' as' → RelR K F' as' H' a v → Q v H') : PostE K mg T σ F as Q Wx r := by
  cases r with
  | ok a μ' => exact k a μ' p
  | ex x μ' => exact postx_of en p
  | no => exact p
theorem w_then {K : PySem.W.Frag} {mg : Str → Option Value} {f : R → Mem → Out} {r : Rs R} {Q : VK} {D : Ends} {Wx : WX} (en : EnvR K ρ σ F as) (p : PostS K mg T F as D Wx (r.thenS ρ f))
    (k : ∀ a μ', PostS K mg T F as D Wx (f a μ') → ∀ (v : V) (H' F' : Hp) (as' : List Addr), Ext F as F' as' → Mm K T μ' H' F' as' → RelW K F' as' a v → Q v H') : PostW K mg T σ F as Q Wx r := by
  cases r with
  | ok a μ' => exact k a μ' p
  | ex x μ' => exact postx_of en p
  | no => exact p
theorem t_then {K : PySem.W.Frag} {mg : Str → Option Value} {f : Bool → Mem → Out} {r : Rs Bool} {Q : Bool → Hp → Prop} {D : Ends} {Wx : WX} (en : EnvR K ρ σ F as) (p : PostS K mg T F as D Wx (r.thenS ρ f))
    (k : ∀ a μ', PostS K mg T F as D Wx (f a μ') → ∀ (H' F' : Hp) (as' : List Addr), Ext F as F' as' → Mm K T μ' H' F' as' → Q a H') : PostT K mg T σ F as Q Wx r := by
  cases r with
  | ok a μ' => exact k a μ' p
  | ex x μ' => exact postx_of en p
  | no => exact p
theorem a_then {K : PySem.W.Frag} {mg : Str → Option Value} {f : List R → Mem → Out} {r : Rs (List R)} {Q : List V → Hp → Prop} {D : Ends} {Wx : WX} (en : EnvR K ρ σ F as) (p : PostS K mg T F as D Wx (r.thenS ρ f))
    (k : ∀ a μ', PostS K mg T F as D Wx (f a μ') → ∀ (vs : List V) (H' F' : Hp) (as' : List Addr), Ext F as F' as' → Mm K T μ' H' F' as' → RelWs K F' as' a vs → Q vs H') : PostA K mg T σ F as Q Wx r := by
  cases r with
  | ok a μ' => exact k a μ' p
  | ex x μ' => exact postx_of en p
  | no => exact p
/-! blocks -/
def sNil : SC := fun ρ μ => .nx ρ μ
def sCons (a b : SC) : SC := fun ρ μ => match a ρ μ with
  | .nx ρ' μ' => b ρ' μ'
  | o => o
theorem db_nil : DB X T [] sNil := ⟨fun {ρ μ σ H F as} m en {D Wx} tk p => vb_of pss_nil (p σ H F as (Ext.refl _ _) m en)⟩
theorem db_one {st : Stmt} {c : SC} (h : DS X T st c) : DB X T [st] c := ⟨fun {ρ μ σ H F as} m en {D Wx} tk p => vb_of (pss_one ps_self) (h.run m en tk p)⟩
theorem db_cons {st : Stmt} {rest : List Stmt} {c d : SC} (h : DS X T st c) (hs : DB X T rest d) : DB X T (st :: rest) (sCons c d) := by
  refine ⟨fun {ρ μ σ H F as} m en {D Wx} tk p => vb_of (pss_cons ps_self pss_self) (h.run m en tk ?_)⟩
  unfold sCons at p
  cases hc : c ρ μ with
  | nx ρ' μ' => rw [hc] at p; exact fun σ' H' F' as' e m' en' => hs.run m' en' tk (p.ext e)
  | rt r μ' => rw [hc] at p; exact p
  | bk ρ' μ' => rw [hc] at p; exact p
  | ct ρ' μ' => rw [hc] at p; exact p
  | ex x ρ' μ' => rw [hc] at p; exact p
  | no => rw [hc] at p; exact p
def sRet (c : EC) : SC := fun ρ μ => (c ρ μ).thenS ρ fun r μ1 => .rt r μ1
theorem ds_ret {e : Expr} {c : EC} (h : DE X T e c) : DS X T (.Return (some e) pos) (sRet c) :=
  ⟨fun {ρ μ σ H F as} m en {D Wx} tk p => vs_of (ps_ret pe_self) (h.run m en tk (e_then en p fun a μ' p' v H' F' as' e m' r => p' v H' F' as' e m' r))⟩
def sRetN : SC := fun _ μ => .rt (.d .none) μ
theorem ds_retN : DS X T (.Return none pos) sRetN := ⟨fun {ρ μ σ H F as} m en {D Wx} tk p => vs_of ps_retN (p .non H F as (Ext.refl _ _) m .non)⟩
theorem ds_pass : DS X T (.Pass pos) sNil := ⟨fun {ρ μ σ H F as} m en {D Wx} tk p => vs_of ps_pass (p σ H F as (Ext.refl _ _) m en)⟩
def sBrk : SC := fun ρ μ => .bk ρ μ
def sCnt : SC := fun ρ μ => .ct ρ μ
theorem ds_break : DS X T (.Break pos) sBrk := ⟨fun {ρ μ σ H F as} m en {D Wx} tk p => vs_of ps_break (p σ H F as (Ext.refl _ _) m en)⟩
theorem ds_continue : DS X T (.Continue pos) sCnt := ⟨fun {ρ μ σ H F as} m en {D Wx} tk p => vs_of ps_continue (p σ H F as (Ext.refl _ _) m en)⟩
def sIf (t : TC) (a b : SC) : SC := fun ρ μ => (t ρ μ).thenS ρ fun k μ1 => if k = true then a ρ μ1 else b ρ μ1
theorem ds_if {t : Expr} {a b : List Stmt} {ct : TC} {ca cb : SC} (ht : DT X T t ct) (ha : DB X T a ca) (hb : DB X T b cb) : DS X T (.If t a b pos) (sIf ct ca cb) := by
  refine ⟨fun {ρ μ σ H F as} m en {D Wx} tk p => vs_of (ps_if pt_self pss_self pss_self) (ht.run m en tk (t_then en p fun k μ1 p1 H1 F1 as1 e1 m1 => ?_))⟩
  cases k with
  | true => exact ha.run m1 (en.mono e1) tk (p1.ext e1)
  | false => exact hb.run m1 (en.mono e1) tk (p1.ext e1)
def sExpr (c : EC) : SC := fun ρ μ => (c ρ μ).thenS ρ fun _ μ1 => .nx ρ μ1
theorem ds_expr {e : Expr} {c : EC} (h : DE X T e c) (hs : swapsWith e none pos.line X.env = pure false := by rfl) : DS X T (.Expr e pos) (sExpr c) :=
  ⟨fun {ρ μ σ H F as} m en {D Wx} tk p => vs_of (ps_expr pe_self hs) (h.run m en tk (e_then en p fun a μ' p' v H' F' as' e m' r => p' σ H' F' as' e m' (en.mono e)))⟩
theorem EnvR.set {K : PySem.W.Frag} {r : R} {v : V} (en : EnvR K ρ σ F as) (h : RelW K F as r v) (i : Nat) : EnvR K (ρ.set i (some r)) (σ.set i (some v)) F as := by
  refine ⟨by rw [List.length_set, List.length_set]; exact en.1, fun j r' q => ?_⟩
  by_cases hj : i = j
  · subst hj
    by_cases hl : i < ρ.length
    · rw [List.getElem?_set_self hl] at q
      cases q
      exact ⟨v, List.getElem?_set_self (by rw [← en.1]; exact hl), h⟩
    · rw [List.getElem?_eq_none (by rw [List.length_set]; omega)] at q; cases q
  · rw [List.getElem?_set_ne hj] at q
    obtain ⟨v', h1, h2⟩ := en.2 j r' q
    exact ⟨v', by rw [List.getElem?_set_ne hj]; exact h1, h2⟩
/-! assignment to a name: what is new becomes a cell (sSetM) or data (sSet) -/
def adopt : R → Mem → Rs R
  | .fl ds, μ => .ok (.c μ.length) (μ ++ [.lst ds])
  | .fk kvs, μ => .ok (.c μ.length) (μ ++ [.dk kvs])
  | .d x, μ => .ok (.d x) μ
  | .c n, μ => .ok (.c n) μ
  | .o b, μ => .ok (.o b) μ
theorem adopt_ok {K : PySem.W.Frag} {r r' : R} {μ' : Mem} {v : V} (m : Mm K T μ H F as) (h : RelR K F as H r v) (e : adopt r μ = .ok r' μ') : ∃ F' as', Ext F as F' as' ∧ Mm K T μ' H F' as' ∧ RelW K F' as' r' v := by
  cases r with
  | d x => cases e; exact ⟨F, as, Ext.refl _ _, m, h⟩
  | c n => cases e; exact ⟨F, as, Ext.refl _ _, m, h⟩
  | fl ds =>
    cases e
    obtain ⟨a, vs, rfl, h1, h2, h3, h4⟩ := h
    refine ⟨F, as ++ [a], ⟨Same.refl _, [a], rfl⟩, m.adopt h1 ⟨h2, vs, h3, h4⟩, a, ?_, rfl⟩
    rw [m.len, List.getElem?_append_right (Nat.le_refl _)]
    simp
  | fk kvs =>
    cases e
    obtain ⟨a, kv, rfl, h1, h2, h3, h4, h5⟩ := h
    refine ⟨F, as ++ [a], ⟨Same.refl _, [a], rfl⟩, m.adopt h1 ⟨h2, kv, h3, h4, h5⟩, a, ?_, rfl⟩
    rw [m.len, List.getElem?_append_right (Nat.le_refl _)]
    simp
  | o b => cases e; exact ⟨F, as, Ext.refl _ _, m, h⟩
def cA (c : EC) : EC := fun ρ μ => (c ρ μ).bind adopt
theorem DE.adopt {e : Expr} {c : EC} (h : DE X T e c) : DW X T e (cA c) := by
  refine ⟨fun {ρ μ σ H F as} m en {Q Wx} tk p => h.run m en tk (e_bind (P := PostW X.K X.mg T σ F as Q Wx) (fun _ _ p => p) (fun p => p) p fun a μ' p' v H' F' as' ex m' r => ?_)⟩
  cases hh : Em.adopt a μ' with
  | ok r' μ2 =>
    rw [hh] at p'
    obtain ⟨F2, as2, e2, m2, r2⟩ := adopt_ok m' r hh
    exact p' v H' F2 as2 (ex.trans e2) m2 r2
  | ex x μ2 => cases a <;> cases hh
  | no => cases a <;> cases hh
def sSet (i : Nat) (c : EC) : SC := fun ρ μ => (c ρ μ).thenS ρ fun r μ1 => .nx (ρ.set i (some r)) μ1
theorem ds_set (i : Nat) {x : Str} {e : Expr} {c : EC} {pos' : Pos} (hN : X.N.Nodup) (h : DW X T e c) (hi : X.N[i]? = some x := by rfl) (hx : Loc X.env.scope x := by first | exact Or.inl rfl | exact Or.inr rfl) (hs : swapsWith e (some (.Name x pos')) pos.line X.env = pure false := by rfl)
    (hf : X.fn x = true ∨ X.env.scope.names.lookup x = some .local := by first | exact .inl rfl | exact .inr rfl | assumption) : DS X T (.Assign [.Name x pos'] e pos) (sSet i c) :=
  ⟨fun {ρ μ σ H F as} m en {D Wx} tk p => vs_of (ps_set hN hi hx pe_self hs hf) (h.run m en tk (w_then en p fun a μ' p' v H' F' as' e m' r => p' _ H' F' as' e m' ((en.mono e).set r i)))⟩
end
end Em
set_option maxRecDepth 100000
namespace Em
open PySem PySem.Spec PyProof.Rows L2

/-! ### a def's body -/
def expo (k : Nat) : Out → Rs R
  | .nx _ μ => .ok (.d .none) (μ.take k)
  | .rt r μ => match r with
    | .c n => if n < k then .ok (.c n) (μ.take k) else match μ[n]? with
      | some (.lst ds) => .ok (.fl ds) (μ.take k)
      | some (.frz ds) => .ok (.d (.list ds)) (μ.take k)
      | some (.dk kvs) => .ok (.fk kvs) (μ.take k)
      | none => .no
    | r => .ok r (μ.take k)
  | .ex x _ μ => .ex x (μ.take k)
  | _ => .no
def fnOf (N : Nat) (body : SC) : Fn := fun ws μ => expo μ.length (body (ws.map some ++ List.replicate (N - ws.length) none) μ)
theorem Mm.cut {K : PySem.W.Frag} {T : Tb} {μ' : Mem} {H F : Hp} {as t : List Addr} (m : Mm K T μ' H F (as ++ t)) {k : Nat} (hk : k = as.length) (b : Ext T.F0 T.as0 F as) : Mm K T (μ'.take k) H F as := by
  have l := m.len
  rw [List.length_append] at l
  refine ⟨m.same, m.ntb, (List.nodup_append.mp m.nd).1, by rw [List.length_take]; omega, fun n c a h1 h2 => ?_, m.tabs, b⟩
  have hn : n < k := by rw [hk]; exact (List.getElem?_eq_some_iff.mp h2).1
  rw [List.getElem?_take_of_lt hn] at h1
  exact m.cell n c a h1 (by rw [List.getElem?_append_left (by omega)]; exact h2)
theorem cut_R {K : PySem.W.Frag} {F H : Hp} {as t : List Addr} {r : R} {v : V} (h : RelR K F (as ++ t) H r v) (hr : ∀ n, r = .c n → n < as.length) : RelR K F as H r v := by
  cases r with
  | d x => exact h
  | c n =>
    obtain ⟨a, h1, h2⟩ := h
    rw [List.getElem?_append_left (hr n rfl)] at h1
    exact ⟨a, h1, h2⟩
  | fl ds => obtain ⟨a, vs, h1, h2, h3⟩ := h; exact ⟨a, vs, h1, fun z => h2 (List.mem_append_left _ z), h3⟩
  | o b => exact h
  | fk kvs => obtain ⟨a, vs, h1, h2, h3⟩ := h; exact ⟨a, vs, h1, fun z => h2 (List.mem_append_left _ z), h3⟩
theorem posts_body {K : PySem.W.Frag} {mg : Str → Option Value} {T : Tb} {μ : Mem} {F H : Hp} {as : List Addr} {o : Out} {Q : VK} {E : XK} (ml : μ.length = as.length) (mb : Ext T.F0 T.as0 F as)
    (p : match expo μ.length o with
      | .ok r μ' => ∀ (v : V) (H' F' : Hp), Same F F' → Mm K T μ' H' F' as → RelR K F' as H' r v → Q v H'
      | .ex x μ' => ∀ (cls : Value) (d : Option Addr) (H' F' : Hp), Same F F' → Mm K T μ' H' F' as → XRel K mg F' x cls d H' → E cls d H'
      | .no => False) : PostS K mg T F as { nx := fun _ H' => Q .non H', rt := Q } (fun cls d _ H' => E cls d H') o := by
  cases o with
  | nx ρ μ' =>
    intro σ' H' F' as' e m en
    obtain ⟨s, t, rfl⟩ := e
    exact p .non H' F' s (m.cut ml (mb.trans (Ext.eqv s))) .non
  | bk ρ μ' => exact p.elim
  | ct ρ μ' => exact p.elim
  | no => exact p
  | ex x ρ μ' =>
    intro cls d σ' H' F' as' e m en r
    obtain ⟨s, t, rfl⟩ := e
    exact p cls d H' F' s (m.cut ml (mb.trans (Ext.eqv s))) r
  | rt r μ' =>
    intro v H' F' as' e m rel
    obtain ⟨s, t, rfl⟩ := e
    cases r with
    | d x => exact p v H' F' s (m.cut ml (mb.trans (Ext.eqv s))) rel
    | fl ds => exact p v H' F' s (m.cut ml (mb.trans (Ext.eqv s))) (cut_R rel (fun n z => by cases z))
    | fk ds => exact p v H' F' s (m.cut ml (mb.trans (Ext.eqv s))) (cut_R rel (fun n z => by cases z))
    | o b => exact p v H' F' s (m.cut ml (mb.trans (Ext.eqv s))) (cut_R rel (fun n z => by cases z))
    | c n =>
      simp only [expo] at p
      by_cases hn : n < μ.length
      · rw [if_pos hn] at p
        exact p v H' F' s (m.cut ml (mb.trans (Ext.eqv s))) (cut_R rel (fun k z => by cases z; rw [← ml]; exact hn))
      · rw [if_neg hn] at p
        obtain ⟨a, ha, rfl⟩ := rel
        have hna : a ∉ as := by
          intro hm
          obtain ⟨j, hj, e⟩ := List.getElem_of_mem hm
          have : (as ++ t)[j]? = some a := by rw [List.getElem?_append_left hj, List.getElem?_eq_getElem hj, e]
          have := nodup_at m.nd this ha
          omega
        cases hc : μ'[n]? with
        | none => rw [hc] at p; exact p.elim
        | some c =>
          have q := m.cell n c a hc ha
          cases c with
          | lst ds =>
            rw [hc] at p
            obtain ⟨h1, vs, h2, h3⟩ := q
            exact p _ H' F' s (m.cut ml (mb.trans (Ext.eqv s))) ⟨a, vs, rfl, hna, h1, h2, h3⟩
          | frz ds =>
            rw [hc] at p
            obtain ⟨vs, h2, h3⟩ := q
            exact p _ H' F' s (m.cut ml (mb.trans (Ext.eqv s))) (.lst (.inl h2) h3)
          | dk kvs =>
            rw [hc] at p
            obtain ⟨h1, kv, h2, h3, h4⟩ := q
            exact p _ H' F' s (m.cut ml (mb.trans (Ext.eqv s))) ⟨a, kv, rfl, hna, h1, h2, h3, h4⟩
theorem env_start {K : PySem.W.Frag} {F : Hp} {as : List Addr} {ws : List R} {vs : List V} {N : List Str} (r : RelWs K F as ws vs) : EnvR K (ws.map some ++ List.replicate (N.length - ws.length) none) (L2.start N vs) F as := by
  have l := r.length
  refine ⟨by unfold L2.start; rw [List.length_append, List.length_append, List.length_map, List.length_map, List.length_replicate, List.length_replicate, l], fun i w q => ?_⟩
  unfold L2.start
  have hi : i < ws.length := by
    by_cases hi : i < ws.length
    · exact hi
    · rw [List.getElem?_append_right (by rw [List.length_map]; omega)] at q
      have := List.mem_of_getElem? q
      exact absurd (List.eq_of_mem_replicate this) (by simp)
  rw [List.getElem?_append_left (by rw [List.length_map]; exact hi), List.getElem?_map] at q
  rw [List.getElem?_append_left (by rw [List.length_map, l]; exact hi), List.getElem?_map]
  clear l hi
  induction r generalizing i with
  | nil => simp at q
  | cons h t ih =>
    cases i with
    | zero =>
      simp at q
      subst q
      exact ⟨_, rfl, h⟩
    | succ i =>
      obtain ⟨v, h1, h2⟩ := ih i (by simpa using q)
      exact ⟨v, by simpa using h1, h2⟩
/-- THE RULE for a def -/
theorem Callee.mk' {P : Program} {w : World} {K : PySem.W.Frag} {mg : Str → Option Value} {base : Heap} {T : Tb} {x : Str} {st : Stmt} {f : Addr} {fd : FuncData} {N ps : List Str} {k n : Nat} {body : SC} (G : Fun K x x st f fd) (S : FnScope N ps (defScope st)) (hn : ps.length = n) (hm : mg x = some (.ref f)) (hb : Binds K fd ps [])
    (h : ∀ (cdv : Value) (A : Around) (outer : List Env) (s : Shared) (H : Hp) (E : XK), Room k (A.deeper (envOfC x (defScope st) s.heap.objs.size f cdv)) → DB (cxOf (L2.CX P w) P w K mg base N x (defScope st) f cdv A outer s H E) T (defBody st) body) :
    Callee P w K mg base T x n (k + 1) (fnOf N.length body) := by
  subst hn
  refine ⟨f, fd, ps, G.okX S (fun vs H Q E q => q.1) (fun cdv A outer s H vs Q E hr hsp => ⟨_, pss_self, ?_⟩), hm, G.kp, hb⟩
  obtain ⟨hl, ws, μ, F, as, m, rel, p⟩ := hsp
  exact (h cdv A outer s H E hr).run m (env_start rel) (takes_of rfl rfl rfl rfl) (posts_body (H := H) m.len m.base p)
theorem Callee.imp {P : Program} {w : World} {K : PySem.W.Frag} {mg : Str → Option Value} {base : Heap} {T : Tb} {x : Str} {k n : Nat} {φ ψ : Fn} (G : Callee P w K mg base T x n k φ) (e : φ = ψ) : Callee P w K mg base T x n k ψ := e ▸ G

section
variable {X : Cx} {T : Tb} {pos : Pos}
/-! ### targets -/
abbrev GC := D → Vr → Option Vr
def VG (X : Cx) (tg : Expr) (v : V) (σ : L2.St) (H : Hp) (Q : L2.St → Hp → Prop) : Prop := ∀ (pins : List (Addr × Obj)) (s : Shared) (u : Value), Inv X pins σ H s → RelV v u →
  wpAny (model X.prog X.w) X.A (assign tg X.env u) (fun _ s' => ∃ σ' H', Inv X pins σ' H' s' ∧ Q σ' H') X.xe s
def VGs (X : Cx) (ts : List Expr) (vs : List V) (σ : L2.St) (H : Hp) (Q : L2.St → Hp → Prop) : Prop := ∀ (pins : List (Addr × Obj)) (s : Shared) (us : List Value), Inv X pins σ H s → Vals vs us →
  wpAny (model X.prog X.w) X.A (assignInOrder ((assignEach ts X.env).map (·.2)) us) (fun _ s' => ∃ σ' H', Inv X pins σ' H' s' ∧ Q σ' H') X.xe s
theorem pg_self {tg : Expr} : PG X tg (fun v σ H Q => VG X tg v σ H Q) := ⟨fun pins s _ _ v u _ I r h => h pins s u I r⟩
theorem pgs_self {tg : List Expr} : PGs X tg (fun v σ H Q => VGs X tg v σ H Q) := ⟨fun pins s _ _ v u _ I r h => h pins s u I r⟩
theorem vg_of {tg : Expr} {t : TG} {v : V} {σ : L2.St} {H : Hp} {Q : L2.St → Hp → Prop} (h : PG X tg t) (q : t v σ H Q) : VG X tg v σ H Q := fun pins s u I r => h.run pins s σ H v u Q I r q
theorem vgs_of {tg : List Expr} {t : TGs} {v : List V} {σ : L2.St} {H : Hp} {Q : L2.St → Hp → Prop} (h : PGs X tg t) (q : t v σ H Q) : VGs X tg v σ H Q := fun pins s u I r => h.run pins s σ H v u Q I r q
structure DG (X : Cx) (T : Tb) (tg : Expr) (sl : List Nat) (g : GC) : Prop where
  run : ∀ {d : D} {v : V} {ρ ρ' : Vr} {μ : Mem} {σ : L2.St} {H F : Hp} {as : List Addr}, Mm X.K T μ H F as → EnvR X.K ρ σ F as → Dq X.K F v d → g d ρ = some ρ' →
    ∀ {Q : L2.St → Hp → Prop}, (∀ σ' : L2.St, EnvR X.K ρ' σ' F as → σ'.length = σ.length → (∀ j, j ∉ sl → σ'[j]? = σ[j]?) → Q σ' H) → VG X tg v σ H Q
structure DGs (X : Cx) (T : Tb) (tg : List Expr) (sl : List Nat) (g : List D → Vr → Option Vr) : Prop where
  run : ∀ {ds : List D} {vs : List V} {ρ ρ' : Vr} {μ : Mem} {σ : L2.St} {H F : Hp} {as : List Addr}, Mm X.K T μ H F as → EnvR X.K ρ σ F as → DqAll X.K F vs ds → g ds ρ = some ρ' →
    ∀ {Q : L2.St → Hp → Prop}, (∀ σ' : L2.St, EnvR X.K ρ' σ' F as → σ'.length = σ.length → (∀ j, j ∉ sl → σ'[j]? = σ[j]?) → Q σ' H) → VGs X tg vs σ H Q
def gN (i : Nat) : GC := fun d ρ => some (ρ.set i (some (.d d)))
def gsN : List D → Vr → Option Vr := fun ds ρ => match ds with
  | [] => some ρ
  | _ => none
def gsC (g : GC) (gs : List D → Vr → Option Vr) : List D → Vr → Option Vr := fun ds ρ => match ds with
  | d :: ds => match g d ρ with
    | some ρ' => gs ds ρ'
    | none => none
  | [] => none
def gT (gs : List D → Vr → Option Vr) : GC := fun d ρ => match d with
  | .tuple ds => gs ds ρ
  | _ => none
theorem dg_name (i : Nat) {x : Str} (hN : X.N.Nodup) (hi : X.N[i]? = some x := by rfl) (hx : Loc X.env.scope x := by first | exact Or.inl rfl | exact Or.inr rfl) (hf : X.fn x = true ∨ X.env.scope.names.lookup x = some .local := by first | exact .inl rfl | exact .inr rfl | assumption) : DG X T (.Name x pos) [i] (gN i) := by
  refine ⟨fun {d v ρ ρ' μ σ H F as} m en hd e {Q} q => vg_of (pg_name hN hi hx hf) ?_⟩
  cases e
  refine q _ (en.set (r := .d d) hd i) (by rw [List.length_set]) (fun j hj => ?_)
  rw [List.getElem?_set_ne (by intro z; exact hj (by rw [z]; simp))]
theorem dgs_nil : DGs X T [] [] gsN := by
  refine ⟨fun {ds vs ρ ρ' μ σ H F as} m en hd e {Q} q => vgs_of pgs_nil ?_⟩
  cases hd with
  | nil => cases e; exact ⟨rfl, q _ en rfl fun _ _ => rfl⟩
  | cons h t => cases e
theorem dgs_cons {e : Expr} {es : List Expr} {s1 s2 : List Nat} {g : GC} {gs : List D → Vr → Option Vr} (h1 : DG X T e s1 g) (h2 : DGs X T es s2 gs) (hs : (assignEach (e :: es) X.env).map (·.2) = assign e X.env :: (assignEach es X.env).map (·.2) := by rfl) : DGs X T (e :: es) (s1 ++ s2) (gsC g gs) := by
  refine ⟨fun {ds vs ρ ρ' μ σ H F as} m en hd e {Q} q => vgs_of (pgs_cons pg_self pgs_self hs) ?_⟩
  cases hd with
  | nil => cases e
  | cons h t' =>
    unfold gsC at e
    rename_i d ds' v vs'
    simp only at e
    split at e
    · rename_i ρ1 he1
      refine ⟨_, _, rfl, h1.run m en h he1 fun σ' en' l' k' => h2.run m en' t' e fun σ2 en2 l2 k2 => q σ2 en2 (l2.trans l') fun j hj => ?_⟩
      rw [k2 j (fun z => hj (List.mem_append_right _ z)), k' j (fun z => hj (List.mem_append_left _ z))]
    · cases e
theorem dg_tup {es : List Expr} {k : Nat} {sl : List Nat} {gs : List D → Vr → Option Vr} (hs : DGs X T es sl gs) (hc : X.calm = true := by rfl) (hst : (assignEach es X.env).findIdx? (·.1) = none := by rfl) (n : Nat) (hn : (assignEach es X.env).length = n := by rfl) (hg : ∀ ds ρ ρ', gs ds ρ = some ρ' → ds.length = n) : DG X T (.Tuple es k pos) sl (gT gs) := by
  refine ⟨fun {d v ρ ρ' μ σ H F as} m en hd e {Q} q => vg_of (pg_tup hc pgs_self hn hst) ?_⟩
  cases hd with
  | tup h1 h2 => exact ⟨_, _, rfl, same_tup m.same h1, by rw [h2.length]; exact hg _ _ _ e, hs.run m en h2 e q⟩
  | _ => cases e
theorem gsN_len : ∀ ds ρ ρ', gsN ds ρ = some ρ' → ds.length = 0 := fun ds ρ ρ' e => by
  cases ds with
  | nil => rfl
  | cons d ds => cases e
theorem gsC_len {g : GC} {gs : List D → Vr → Option Vr} {n : Nat} (h : ∀ ds ρ ρ', gs ds ρ = some ρ' → ds.length = n) : ∀ ds ρ ρ', gsC g gs ds ρ = some ρ' → ds.length = n + 1 := fun ds ρ ρ' e => by
  cases ds with
  | nil => cases e
  | cons d ds =>
    unfold gsC at e
    simp only at e
    split at e
    · rw [List.length_cons, h _ _ _ e]
    · cases e

/-! ### what is walked -/
inductive Itm where
  | seq (r : R)
  | rng (lo c : Int) (n : Nat)
  | enm (r : R)
  | zip (a b : R)
  | txt (s : Str)
def seeL (r : R) (μ : Mem) : Option (List D) := match see r μ with
  | some (.list ds) => some ds
  | some (.tuple ds) => some ds
  | _ => none
def itLen : Itm → Mem → Option Nat
  | .seq r, μ => (seeL r μ).map (·.length)
  | .rng _ _ n, _ => some n
  | .enm r, μ => (seeL r μ).map (·.length)
  | .zip a b, μ => match seeL a μ, seeL b μ with
    | some xs, some ys => some (min xs.length ys.length)
    | _, _ => none
  | .txt s, _ => some s.cps.size
def itAt : Itm → Nat → Mem → Option D
  | .seq r, i, μ => match seeL r μ with
    | some ds => ds[i]?
    | none => none
  | .rng lo c n, i, _ => if i < n then some (.int (lo + (i : Nat) * c)) else none
  | .enm r, i, μ => match seeL r μ with
    | some ds => (ds[i]?).map fun d => .tuple [.int (i : Nat), d]
    | none => none
  | .zip a b, i, μ => match seeL a μ, seeL b μ with
    | some xs, some ys => match xs[i]?, ys[i]? with
      | some x, some y => some (.tuple [x, y])
      | _, _ => none
    | _, _ => none
  | .txt s, i, _ => (s.cps[i]?).map fun c => .str ⟨#[c]⟩
def VI (X : Cx) (tg iter : Expr) (σ : L2.St) (H : Hp) (Rq : It → Hp → Prop) : Prop := ∀ (pins : List (Addr × Obj)) (s : Shared), Inv X pins σ H s →
  wpAny (model X.prog X.w) X.A (eval iter X.env) (fun v s1 => wpAny (model X.prog X.w) X.A (pyIter v) (PIE X pins σ tg Rq) X.xe s1) X.xe s
theorem pi_self {tg iter : Expr} : PI X tg iter (fun σ H Rq => VI X tg iter σ H Rq) := ⟨fun pins s _ _ _ I h => h pins s I⟩
theorem vi_of {tg iter : Expr} {t : TI} {σ : L2.St} {H : Hp} {Rq : It → Hp → Prop} (h : PI X tg iter t) (q : t σ H Rq) : VI X tg iter σ H Rq := fun pins s I => h.run pins s σ H Rq I q
def JRel (K : PySem.W.Frag) (T : Tb) (F : Hp) (as : List Addr) (j : Itm) (J : It) : Prop := ∀ (F1 : Hp) (as1 : List Addr) (μ1 : Mem) (H1 : Hp), Ext F as F1 as1 → Mm K T μ1 H1 F1 as1 → ∀ i, (itLen j μ1 = some i → J.stop i H1) ∧
  (∀ d, itAt j i μ1 = some d → J.go i H1 ∧ ∀ x H2, J.yld i H1 x H2 → ∃ F2, Ext F1 as1 F2 as1 ∧ Mm K T μ1 H2 F2 as1 ∧ Dq K F2 x d)
def PostI (K : PySem.W.Frag) (mg : Str → Option Value) (T : Tb) (σ : L2.St) (F : Hp) (as : List Addr) (Rq : It → Hp → Prop) (Wx : WX) : Rs Itm → Prop
  | .ok j μ' => ∀ (J : It) (H' F' : Hp) (as' : List Addr), Ext F as F' as' → Mm K T μ' H' F' as' → JRel K T F' as' j J → Rq J H'
  | .ex x μ' => PostX K mg T σ F as Wx x μ'
  | .no => False
structure DI (X : Cx) (T : Tb) (tg iter : Expr) (ci : Vr → Mem → Rs Itm) : Prop where
  run : ∀ {ρ : Vr} {μ : Mem} {σ : L2.St} {H F : Hp} {as : List Addr}, Mm X.K T μ H F as → EnvR X.K ρ σ F as → ∀ {Rq : It → Hp → Prop} {Wx : WX}, Takes X Wx → PostI X.K X.mg T σ F as Rq Wx (ci ρ μ) → VI X tg iter σ H Rq
/-! a list or a tuple -/
def iSeq (c : EC) : Vr → Mem → Rs Itm := fun ρ μ => (c ρ μ).bind fun r μ1 => .ok (.seq r) μ1
theorem seeL_cases {r : R} {μ : Mem} {ds : List D} (h : seeL r μ = some ds) : see r μ = some (.list ds) ∨ see r μ = some (.tuple ds) := by
  unfold seeL at h
  split at h
  · cases h; left; assumption
  · cases h; right; assumption
  · cases h
end
end Em
set_option maxRecDepth 100000
namespace Em
open PySem PySem.Spec PyProof.Rows L2
section
variable {X : Cx} {T : Tb} {pos : Pos}
theorem dp_list_inj {K : PySem.W.Frag} {H : Hp} {a : Addr} {xs ys : List V} (h : H a = some (.lst xs)) (h' : H a = some (.lst ys)) : xs = ys := by rw [h] at h'; cases h'; rfl
/-- the walk of a list at a -/
theorem jrel_list {K : PySem.W.Frag} {F : Hp} {as : List Addr} {r : R} {a : Addr} (h : RelW K F as r (.ref a)) (hl : ∀ (μ1 : Mem) (ds : List D), see r μ1 ≠ some (.tuple ds)) : JRel K T F as (.seq r) (Itl K a) := by
  intro F1 as1 μ1 H1 e m i
  have h1 := h.mono e
  have key : ∀ ds, seeL r μ1 = some ds → ∃ vs, SqL K H1 a vs ∧ DqAll K F1 vs ds := fun ds hd => by
    rcases seeL_cases hd with z | z
    · obtain ⟨b, vs, eb, q1, q2⟩ := see_list m h1 z
      cases eb
      exact ⟨vs, .inl q1, q2⟩
    · exact absurd z (hl _ _)
  refine ⟨fun hi => ?_, fun d hd => ?_⟩
  · unfold itLen at hi
    cases hs : seeL r μ1 with
    | none => simp [hs] at hi
    | some ds =>
      simp [hs] at hi
      obtain ⟨vs, q1, q2⟩ := key ds hs
      exact ⟨vs, q1, by rw [q2.length]; omega⟩
  · unfold itAt at hd
    cases hs : seeL r μ1 with
    | none => simp [hs] at hd
    | some ds =>
      simp only [hs] at hd
      obtain ⟨vs, q1, q2⟩ := key ds hs
      obtain ⟨v, g1, g2⟩ := q2.get hd
      refine ⟨⟨vs, v, q1, g1⟩, fun x H2 y => ?_⟩
      obtain ⟨rfl, y2⟩ := y
      have : x = v := Option.some.inj ((y2 vs q1).symm.trans g1)
      subst this
      exact ⟨F1, Ext.refl _ _, m, g2⟩
theorem jrel_tup {K : PySem.W.Frag} {F : Hp} {as : List Addr} {ds : List D} {a : Addr} (h : RelW K F as (.d (.tuple ds)) (.ref a)) : JRel K T F as (.seq (.d (.tuple ds))) (Itt K a) := by
  intro F1 as1 μ1 H1 e m i
  have h1 := h.mono e
  obtain ⟨b, vs, eb, q1, _, q2⟩ := see_tup m h1 (rfl : see (.d (.tuple ds)) μ1 = some (.tuple ds))
  cases eb
  refine ⟨fun hi => ?_, fun d hd => ?_⟩
  · have : ds.length = i := by simpa [itLen, seeL, see] using hi
    exact ⟨vs, q1, by rw [q2.length]; omega⟩
  · have hd' : ds[i]? = some d := by simpa [itAt, seeL, see] using hd
    obtain ⟨v, g1, g2⟩ := q2.get hd'
    refine ⟨⟨vs, v, q1, g1⟩, fun x H2 y => ?_⟩
    obtain ⟨rfl, y2⟩ := y
    have : x = v := Option.some.inj ((y2 vs q1).symm.trans g1)
    subst this
    exact ⟨F1, Ext.refl _ _, m, g2⟩
theorem jrel_txt {K : PySem.W.Frag} {F : Hp} {as : List Addr} {z : Str} : JRel K T F as (.txt z) (Its z) := by
  intro F1 as1 μ1 H1 e m i
  refine ⟨fun hi => ?_, fun d hd => ?_⟩
  · have : z.cps.size = i := by simpa [itLen] using hi
    exact Nat.le_of_eq this
  · have hd' : (z.cps[i]?).map (fun c => PyData.str ⟨#[c]⟩) = some d := hd
    cases hc : z.cps[i]? with
    | none => rw [hc] at hd'; cases hd'
    | some c =>
      rw [hc] at hd'
      cases hd'
      obtain ⟨hlt, _⟩ := Array.getElem?_eq_some_iff.mp hc
      refine ⟨hlt, fun x H2 y => ?_⟩
      obtain ⟨rfl, c', hc', rfl⟩ := y
      rw [hc] at hc'
      cases hc'
      exact ⟨F1, Ext.refl _ _, m, .str _⟩
theorem jrel_rng {K : PySem.W.Frag} {F : Hp} {as : List Addr} {lo : Int} {n : Nat} : JRel K T F as (.rng lo 1 n) (Itr lo n) := by
  intro F1 as1 μ1 H1 e m i
  refine ⟨fun hi => ?_, fun d hd => ?_⟩
  · have : n = i := by simpa [itLen] using hi
    exact Nat.le_of_eq this
  · have hd' : (if i < n then some (PyData.int (lo + (i : Nat) * 1)) else none) = some d := hd
    by_cases hlt : i < n
    · rw [if_pos hlt] at hd'
      cases hd'
      refine ⟨hlt, fun x H2 y => ?_⟩
      obtain ⟨rfl, rfl⟩ := y
      rw [Int.mul_one]
      exact ⟨F1, Ext.refl _ _, m, .int _⟩
    · rw [if_neg hlt] at hd'; cases hd'
theorem PostI.ext {K : PySem.W.Frag} {mg : Str → Option Value} {σ : L2.St} {F F1 : Hp} {as as1 : List Addr} {Rq : It → Hp → Prop} {Wx : WX} {r : Rs Itm} (p : PostI K mg T σ F as Rq Wx r) (e : Ext F as F1 as1) : PostI K mg T σ F1 as1 Rq Wx r := by
  cases r with
  | ok r μ' => exact fun J H' F' as' e' => p J H' F' as' (e.trans e')
  | ex x μ' => exact PostX.ext p e
  | no => exact p
def itmOf (r : R) (μ : Mem) : Rs Itm := match r with
  | .d (.str z) => .ok (.txt z) μ
  | .d (.list ds) => .ok (.seq (.d (.list ds))) μ
  | .d (.tuple ds) => .ok (.seq (.d (.tuple ds))) μ
  | .c n => match μ[n]? with
    | some (.dk _) => .no
    | _ => .ok (.seq (.c n)) μ
  | _ => .no
def iAny (c : EC) : Vr → Mem → Rs Itm := fun ρ μ => (c ρ μ).bind itmOf
theorem see_c_tup {n : Nat} {μ : Mem} {ds : List D} : see (.c n) μ ≠ some (.tuple ds) := by
  unfold see
  simp only
  split <;> (intro z; cases z)
theorem wi_bind {K : PySem.W.Frag} {mg : Str → Option Value} {σ : L2.St} {F : Hp} {as : List Addr} {Rq : It → Hp → Prop} {f : R → Mem → Rs Itm} {r : Rs R} {Q : VK} {Wx : WX} (p : PostI K mg T σ F as Rq Wx (r.bind f))
    (k : ∀ a μ', PostI K mg T σ F as Rq Wx (f a μ') → ∀ (v : V) (H' F' : Hp) (as' : List Addr), Ext F as F' as' → Mm K T μ' H' F' as' → RelW K F' as' a v → Q v H') : PostW K mg T σ F as Q Wx r := by
  cases r with
  | ok a μ' => exact k a μ' p
  | ex x μ' => exact p
  | no => exact p
theorem ai_bind {K : PySem.W.Frag} {mg : Str → Option Value} {σ : L2.St} {F : Hp} {as : List Addr} {Rq : It → Hp → Prop} {f : List R → Mem → Rs Itm} {r : Rs (List R)} {Q : List V → Hp → Prop} {Wx : WX} (p : PostI K mg T σ F as Rq Wx (r.bind f))
    (k : ∀ a μ', PostI K mg T σ F as Rq Wx (f a μ') → ∀ (vs : List V) (H' F' : Hp) (as' : List Addr), Ext F as F' as' → Mm K T μ' H' F' as' → RelWs K F' as' a vs → Q vs H') : PostA K mg T σ F as Q Wx r := by
  cases r with
  | ok a μ' => exact k a μ' p
  | ex x μ' => exact p
  | no => exact p
/-- a value that can be walked, walked -/
theorem iter_any {tg : Expr} {r : R} {v : V} {u : Value} {μ : Mem} {H F : Hp} {as : List Addr} {σ : L2.St} {pins : List (Addr × Obj)} {s : Shared} {Rq : It → Hp → Prop} {Wx : WX} (m : Mm X.K T μ H F as) (rel : RelW X.K F as r v) (p : PostI X.K X.mg T σ F as Rq Wx (itmOf r μ))
    (I : Inv X pins σ H s) (ru : RelV v u) : wpAny (model X.prog X.w) X.A (pyIter u) (PIE X pins σ tg Rq) X.xe s := by
  have lst : ∀ (a : Addr) (vs : List V), SqL X.K H a vs → Rq (Itl X.K a) H → wpAny (model X.prog X.w) X.A (pyIter (.ref a)) (PIE X pins σ tg Rq) X.xe s := fun a vs hq q => by
    obtain ⟨its, _, pl, _⟩ := I.list hq
    exact wpAny_pyIter_list pl.isList (pi_one (tk := s.toks) I _ (turn_list a _) ⟨_, Heap.get?_push_size _ rfl, rfl, rfl⟩ q)
  cases r with
  | d x =>
    cases x with
    | str z =>
      have hz : v = .str z := by cases rel; rfl
      subst hz
      obtain ⟨t, rfl⟩ := ru
      have q := p (Its z) H F as (Ext.refl _ _) m jrel_txt
      cases ha : z.cps.all (· < 128) with
      | false => exact wpAny_pyIter_wide ha (pi_one (tk := s.toks) I _ (turn_str _ z t "str_iterator" (.inr rfl)) ⟨_, Heap.get?_push_size _ rfl, rfl, rfl⟩ q)
      | true => exact wpAny_pyIter_ascii ha (pi_one (tk := s.toks) I _ (turn_str _ z t "str_ascii_iterator" (.inl rfl)) ⟨_, Heap.get?_push_size _ rfl, rfl, rfl⟩ q)
    | list ds =>
      obtain ⟨a, vs, rfl, hL, hd⟩ := see_list m rel (rfl : see (.d (.list ds)) μ = some (.list ds))
      cases ru
      exact lst a vs (.inl hL) (p _ H F as (Ext.refl _ _) m (jrel_list rel (fun μ1 ds' z => by cases z)))
    | tuple ds =>
      obtain ⟨a, vs, rfl, hL, _, hd⟩ := see_tup m rel (rfl : see (.d (.tuple ds)) μ = some (.tuple ds))
      cases ru
      have q := p (Itt X.K a) H F as (Ext.refl _ _) m (jrel_tup rel)
      obtain ⟨its, _, pt, _⟩ := I.tuple hL
      exact wpAny_pyIter_tuple (show s.heap.IsTuple a its.toArray from pt) (pi_one (tk := s.toks) I _ (turn_tuple a _) ⟨_, Heap.get?_push_size _ rfl, rfl, rfl⟩ q)
    | none => exact p.elim
    | bool b => exact p.elim
    | int i => exact p.elim
    | dict kvs => exact p.elim
  | c n =>
    obtain ⟨a, ha, rfl⟩ := id rel
    cases ru
    have hl : n < μ.length := by rw [m.len]; exact (List.getElem?_eq_some_iff.mp ha).1
    have he : μ[n]? = some μ[n] := List.getElem?_eq_getElem hl
    have hc := m.cell n μ[n] a he ha
    unfold itmOf at p
    simp only [he] at p
    cases hcc : μ[n] with
    | lst ds =>
      rw [hcc] at hc p
      obtain ⟨_, vs, h1, _⟩ := hc
      exact lst a vs (.inl (.inl h1)) (p (Itl X.K a) H F as (Ext.refl _ _) m (jrel_list rel (fun μ1 ds => see_c_tup)))
    | frz ds =>
      rw [hcc] at hc p
      obtain ⟨vs, h1, _⟩ := hc
      exact lst a vs (.inl (.inl (m.same _ _ h1))) (p (Itl X.K a) H F as (Ext.refl _ _) m (jrel_list rel (fun μ1 ds => see_c_tup)))
    | dk kvs => rw [hcc] at p; exact p.elim
  | fl ds => exact p.elim
  | fk ds => exact p.elim
  | o b => exact p.elim
theorem di_any {tg l : Expr} {c : EC} (h : DW X T l c) : DI X T tg l (iAny c) := by
  refine ⟨fun {ρ μ σ H F as} m en {Rq Wx} tk p pins s I => ?_⟩
  have go : PostW X.K X.mg T σ F as (fun v H' => ∀ (u : Value) (s1 : Shared), Inv X pins σ H' s1 → RelV v u → wpAny (model X.prog X.w) X.A (pyIter u) (PIE X pins σ tg Rq) X.xe s1) Wx (c ρ μ) :=
    wi_bind p fun a μ' p' v H' F' as' e m' r u s1 I1 ru => iter_any (Wx := Wx) m' r (p'.ext e) I1 ru
  exact thn (h.run m en tk go pins s I) fun u s1 ⟨v, H1, I1, r1, q1⟩ => q1 u s1 I1 r1
/-! ranges -/
def iR1 (c : EC) : Vr → Mem → Rs Itm := fun ρ μ => (c ρ μ).bind fun r μ1 => match r with
  | .d (.int j) => if -(2 ^ 62) ≤ j ∧ j < 2 ^ 62 then .ok (.rng 0 1 j.toNat) μ1 else .no
  | _ => .no
def iR2 (ca : AC) : Vr → Mem → Rs Itm := fun ρ μ => (ca ρ μ).bind fun rs μ1 => match rs with
  | [.d (.int i), .d (.int j)] => if -(2 ^ 62) ≤ i ∧ i < 2 ^ 62 ∧ -(2 ^ 62) ≤ j ∧ j < 2 ^ 62 then .ok (.rng i 1 (j - i).toNat) μ1 else .no
  | _ => .no
theorem di_range1 {tg a : Expr} {c : EC} {p : Pos} (hm : X.mg "range" = none) (h : DW X T a c) (hg : Gl X "range" := by rfl) (hs : starEach [a] X.env = [(false, eval a X.env)] := by rfl) : DI X T tg (.Call (.Name "range" p) [a] [] pos) (iR1 c) := by
  refine ⟨fun {ρ μ σ H F as} m en {Rq Wx} tk pp => vi_of (pi_range1 hg hm pa_self hs) ?_⟩
  refine va_of (pa_cons pe_self pa_nil (by rw [hs] <;> rfl)) ?_
  refine h.run m en tk (wi_bind pp fun r μ' p' v H' F' as' e m' rel => ?_)
  cases r with
  | d x =>
    cases x with
    | int j =>
      cases rel
      simp only at p'
      split at p'
      · rename_i hj
        exact ⟨j, rfl, hj.1, hj.2, p' (Itr 0 j.toNat) H' F' as' e m' jrel_rng⟩
      · exact p'.elim
    | _ => exact p'.elim
  | _ => exact p'.elim
theorem relws2 {K : PySem.W.Frag} {F : Hp} {as : List Addr} {i j : Int} {vs : List V} (h : RelWs K F as [.d (.int i), .d (.int j)] vs) : vs = [.int i, .int j] := by
  cases h with
  | cons a b =>
    cases b with
    | cons c d =>
      cases d
      cases a
      cases c
      rfl
theorem di_range2 {tg a b : Expr} {ca : AC} {p : Pos} (hm : X.mg "range" = none) (h : DA X T [a, b] ca) (hg : Gl X "range" := by rfl) (hs : starEach [a, b] X.env = [(false, eval a X.env), (false, eval b X.env)] := by rfl) (hs2 : starEach [b] X.env = [(false, eval b X.env)] := by rfl) :
    DI X T tg (.Call (.Name "range" p) [a, b] [] pos) (iR2 ca) := by
  refine ⟨fun {ρ μ σ H F as} m en {Rq Wx} tk pp => vi_of (pi_range2 hg hm pa_self hs hs2) ?_⟩
  refine h.run m en tk (ai_bind pp fun rs μ' p' vs H' F' as' e m' rel => ?_)
  split at p'
  · rename_i i j
    split at p'
    · rename_i hj
      exact ⟨i, j, relws2 rel, hj, p' (Itr i (j - i).toNat) H' F' as' e m' jrel_rng⟩
    · exact p'.elim
  · exact p'.elim
/-! enumerate of a list -/
theorem jrel_enm {K : PySem.W.Frag} {F : Hp} {as : List Addr} {r : R} {a : Addr} (h : RelW K F as r (.ref a)) (hl : ∀ (μ1 : Mem) (ds : List D), see r μ1 ≠ some (.tuple ds)) : JRel K T F as (.enm r) (Ite K a) := by
  intro F1 as1 μ1 H1 e m i
  have h1 := h.mono e
  have key : ∀ ds, seeL r μ1 = some ds → ∃ vs, SqL K H1 a vs ∧ DqAll K F1 vs ds := fun ds hd => by
    rcases seeL_cases hd with z | z
    · obtain ⟨b, vs, eb, q1, q2⟩ := see_list m h1 z
      cases eb
      exact ⟨vs, .inl q1, q2⟩
    · exact absurd z (hl _ _)
  refine ⟨fun hi => ?_, fun d hd => ?_⟩
  · unfold itLen at hi
    cases hs : seeL r μ1 with
    | none => simp [hs] at hi
    | some ds =>
      simp [hs] at hi
      obtain ⟨vs, q1, q2⟩ := key ds hs
      exact ⟨vs, q1, by rw [q2.length]; omega⟩
  · unfold itAt at hd
    cases hs : seeL r μ1 with
    | none => simp [hs] at hd
    | some ds =>
      simp only [hs] at hd
      cases hdi : ds[i]? with
      | none => rw [hdi] at hd; cases hd
      | some d0 =>
        rw [hdi] at hd
        cases hd
        obtain ⟨vs, q1, q2⟩ := key ds hs
        obtain ⟨v, g1, g2⟩ := q2.get hdi
        refine ⟨⟨vs, v, q1, g1⟩, fun x H2 y => ?_⟩
        obtain ⟨t, x', rfl, ht, rfl, y2⟩ := y
        have : x' = v := Option.some.inj ((y2 vs q1).symm.trans g1)
        subst this
        have hF := m.freeF ht
        exact ⟨upd F1 t (.tup [.int (i : Nat), x']), Ext.new hF, (m.alloc ht).freeze hF upd_same (m.notin ht) (fun ps z => by cases z), .tup (.inl (.inl upd_same)) (.cons (.int _) (.cons (Dq_mono (same_new hF) g2) .nil))⟩
def enmOf (r : R) (μ : Mem) : Rs Itm := match r with
  | .d (.list ds) => .ok (.enm (.d (.list ds))) μ
  | .c n => match μ[n]? with
    | some (.dk _) => .no
    | _ => .ok (.enm (.c n)) μ
  | _ => .no
theorem c_list {n : Nat} {v : V} {μ : Mem} {H F : Hp} {as : List Addr} {α : Type} {P : Rs α → Prop} {q : Rs α} (hno : ¬ P .no) (m : Mm X.K T μ H F as) (rel : RelW X.K F as (.c n) v) (p : P (match μ[n]? with
    | some (.dk _) => .no
    | _ => q)) : ∃ a vs, v = .ref a ∧ SqL X.K H a vs ∧ P q := by
  obtain ⟨a, ha, rfl⟩ := id rel
  have hl : n < μ.length := by rw [m.len]; exact (List.getElem?_eq_some_iff.mp ha).1
  have he : μ[n]? = some μ[n] := List.getElem?_eq_getElem hl
  have hc := m.cell n μ[n] a he ha
  simp only [he] at p
  cases hcc : μ[n] with
  | lst ds =>
    rw [hcc] at hc p
    obtain ⟨_, vs, h1, _⟩ := hc
    exact ⟨a, vs, rfl, .inl (.inl h1), p⟩
  | frz ds =>
    rw [hcc] at hc p
    obtain ⟨vs, h1, _⟩ := hc
    exact ⟨a, vs, rfl, .inl (.inl (m.same _ _ h1)), p⟩
  | dk kvs => rw [hcc] at p; exact (hno p).elim
def iEn (c : EC) : Vr → Mem → Rs Itm := fun ρ μ => (c ρ μ).bind enmOf
theorem di_enum {elts : List Expr} {kk : Nat} {tpos : Pos} {a : Expr} {c : EC} {p : Pos} (hm : X.mg "enumerate" = none) (h : DW X T a c) (hg : Gl X "enumerate" := by rfl) (hs : starEach [a] X.env = [(false, eval a X.env)] := by rfl) : DI X T (.Tuple elts kk tpos) (.Call (.Name "enumerate" p) [a] [] pos) (iEn c) := by
  refine ⟨fun {ρ μ σ H F as} m en {Rq Wx} tk pp => vi_of (pi_enum hg hm pa_self hs) ?_⟩
  refine va_of (pa_cons pe_self pa_nil (by rw [hs] <;> rfl)) ?_
  refine h.run m en tk (wi_bind pp fun r μ' p' v H' F' as' e m' rel => ?_)
  cases r with
  | d x =>
    cases x with
    | list ds =>
      obtain ⟨a, vs, rfl, hL, hd⟩ := see_list m' rel (rfl : see (.d (.list ds)) μ' = some (.list ds))
      exact ⟨a, vs, rfl, .inl hL, p' _ H' F' as' e m' (jrel_enm rel (fun μ1 ds' z => by cases z))⟩
    | _ => exact p'.elim
  | c n =>
    unfold enmOf at p'
    obtain ⟨a, vs, rfl, hL, q⟩ := c_list (P := PostI X.K X.mg T σ F as Rq Wx) (fun z => z) m' rel p'
    exact ⟨a, vs, rfl, hL, q _ H' F' as' e m' (jrel_enm rel (fun μ1 ds => see_c_tup))⟩
  | fl ds => exact p'.elim
  | fk ds => exact p'.elim
  | o b => exact p'.elim

/-! ### for, while -/
def forL (b : D → SC) (j : Itm) : Nat → Nat → SC
  | 0, i => fun ρ μ => if itLen j μ = some i then .nx ρ μ else .no
  | k + 1, i => fun ρ μ => match itAt j i μ with
    | some d => match b d ρ μ with
      | .nx ρ' μ' => forL b j k (i + 1) ρ' μ'
      | .ct ρ' μ' => forL b j k (i + 1) ρ' μ'
      | .bk ρ' μ' => .nx ρ' μ'
      | o => o
    | none => .no
def stepS (g : GC) (b : SC) : D → SC := fun d ρ μ => match g d ρ with
  | some ρ' => b ρ' μ
  | none => .no
def sFor (ci : Vr → Mem → Rs Itm) (g : GC) (b : SC) : SC := fun ρ μ => (ci ρ μ).thenS ρ fun j μ1 => match itLen j μ1 with
  | some n => forL (stepS g b) j n 0 ρ μ1
  | none => .no
theorem ds_for {tg iter : Expr} {body : List Stmt} {ci : Vr → Mem → Rs Itm} {sl : List Nat} {g : GC} {b : SC} (hi : DI X T tg iter ci) (hg : DG X T tg sl g) (hb : DB X T body b) (hp : PassesOwn (model X.prog X.w) X.A X.env X.xe := by exact passes_of rfl) (hc : X.calm = true := by rfl)
    (hs : ∀ x, foldedSetIterable iter X.env x = pure x := by intro _; rfl) : DS X T (.For tg iter body [] pos) (sFor ci g b) := by
  refine ⟨fun {ρ μ σ H F as} m en {D Wx} tk p => vs_of (ps_for hp hc pi_self pg_self pss_self hs) (hi.run (Wx := Wx) m en tk ?_)⟩
  unfold sFor at p
  cases hci : ci ρ μ with
  | no => rw [hci] at p; exact p
  | ex x μ' => rw [hci] at p; exact postx_of en p
  | ok j μ1 =>
    rw [hci] at p
    intro J H1 F1 as1 e1 m1 jr
    have p1 : PostS X.K X.mg T F1 as1 D Wx (match itLen j μ1 with
      | some n => forL (stepS g b) j n 0 ρ μ1
      | none => .no) := PostS.ext p e1
    cases hn : itLen j μ1 with
    | none => rw [hn] at p1; exact p1.elim
    | some n =>
      rw [hn] at p1
      refine ⟨fun i k σ2 H2 => ∃ (ρ2 : Vr) (μ2 : Mem) (F2 : Hp) (as2 : List Addr), Ext F1 as1 F2 as2 ∧ Mm X.K T μ2 H2 F2 as2 ∧ EnvR X.K ρ2 σ2 F2 as2 ∧ PostS X.K X.mg T F2 as2 D Wx (forL (stepS g b) j k i ρ2 μ2), ⟨n, ρ, μ1, F1, as1, Ext.refl _ _, m1, en.mono e1, p1⟩, ?_⟩
      rintro i k σ2 H2 ⟨ρ2, μ2, F2, as2, e2, m2, en2, p2⟩
      obtain ⟨js, jg⟩ := jr F2 as2 μ2 H2 e2 m2 i
      cases k with
      | zero =>
        unfold forL at p2
        by_cases hl : itLen j μ2 = some i
        · rw [if_pos hl] at p2
          exact .inl ⟨js hl, p2 σ2 H2 F2 as2 (Ext.refl _ _) m2 en2⟩
        · rw [if_neg hl] at p2; exact p2.elim
      | succ k =>
        unfold forL at p2
        cases hd : itAt j i μ2 with
        | none => rw [hd] at p2; exact p2.elim
        | some d =>
          rw [hd] at p2
          obtain ⟨go, yld⟩ := jg d hd
          refine .inr ⟨go, fun σ' H' => ∃ (ρ2 : Vr) (μ2 : Mem) (F2 : Hp) (as2 : List Addr), Ext F1 as1 F2 as2 ∧ Mm X.K T μ2 H' F2 as2 ∧ EnvR X.K ρ2 σ' F2 as2 ∧ PostS X.K X.mg T F2 as2 D Wx (forL (stepS g b) j k (i + 1) ρ2 μ2), fun σ' H' q => ⟨k, Nat.lt_succ_self k, q⟩, fun x H' y => ?_⟩
          obtain ⟨F3, e3, m3, dx⟩ := yld x H' y
          have en3 := en2.mono e3
          have p3 : PostS X.K X.mg T F3 as2 D Wx (match stepS g b d ρ2 μ2 with
            | .nx ρ' μ' => forL (stepS g b) j k (i + 1) ρ' μ'
            | .ct ρ' μ' => forL (stepS g b) j k (i + 1) ρ' μ'
            | .bk ρ' μ' => .nx ρ' μ'
            | o => o) := PostS.ext p2 e3
          unfold stepS at p3
          cases hgd : g d ρ2 with
          | none => simp only [hgd] at p3; exact p3.elim
          | some ρ' =>
            simp only [hgd] at p3
            refine hg.run m3 en3 dx hgd fun σ' en' _ _ => hb.run m3 en' tk ?_
            cases hbb : b ρ' μ2 with
            | nx ρ4 μ4 => rw [hbb] at p3; exact fun σ5 H5 F5 as5 e5 m5 en5 => ⟨ρ4, μ4, F5, as5, (e2.trans e3).trans e5, m5, en5, PostS.ext p3 e5⟩
            | ct ρ4 μ4 => rw [hbb] at p3; exact fun σ5 H5 F5 as5 e5 m5 en5 => ⟨ρ4, μ4, F5, as5, (e2.trans e3).trans e5, m5, en5, PostS.ext p3 e5⟩
            | bk ρ4 μ4 => rw [hbb] at p3; exact p3
            | rt r μ4 => rw [hbb] at p3; exact p3
            | ex x ρ4 μ4 => rw [hbb] at p3; exact p3
            | no => rw [hbb] at p3; exact p3
def whileL (t : TC) (b : SC) : Nat → SC
  | 0 => fun _ _ => .no
  | k + 1 => fun ρ μ => (t ρ μ).thenS ρ fun c μ1 => if c = true then (match b ρ μ1 with
      | .nx ρ' μ' => whileL t b k ρ' μ'
      | .ct ρ' μ' => whileL t b k ρ' μ'
      | .bk ρ' μ' => .nx ρ' μ'
      | o => o) else .nx ρ μ1
def sWhile (n : Nat) (t : TC) (b : SC) : SC := whileL t b n
theorem ds_while (n : Nat) {t : Expr} {body : List Stmt} {ct : TC} {b : SC} (ht : DT X T t ct) (hb : DB X T body b) (hp : PassesOwn (model X.prog X.w) X.A X.env X.xe := by exact passes_of rfl) : DS X T (.While t body [] pos) (sWhile n ct b) := by
  refine ⟨fun {ρ μ σ H F as} m en {D Wx} tk p => vs_of (ps_while hp pt_self pss_self) ?_⟩
  refine ⟨fun k σ2 H2 => ∃ (ρ2 : Vr) (μ2 : Mem) (F2 : Hp) (as2 : List Addr), Ext F as F2 as2 ∧ Mm X.K T μ2 H2 F2 as2 ∧ EnvR X.K ρ2 σ2 F2 as2 ∧ PostS X.K X.mg T F2 as2 D Wx (whileL ct b k ρ2 μ2), ⟨n, ρ, μ, F, as, Ext.refl _ _, m, en, p⟩, ?_⟩
  rintro k σ2 H2 ⟨ρ2, μ2, F2, as2, e2, m2, en2, p2⟩
  cases k with
  | zero => exact p2.elim
  | succ k =>
    unfold whileL at p2
    refine ht.run m2 en2 tk (t_then en2 p2 fun c μ3 p3 H3 F3 as3 e3 m3 => ?_)
    cases c with
    | false => exact p3 σ2 H3 F3 as3 e3 m3 (en2.mono e3)
    | true =>
      refine ⟨fun σ' H' => ∃ (ρ2 : Vr) (μ2 : Mem) (F2 : Hp) (as2 : List Addr), Ext F as F2 as2 ∧ Mm X.K T μ2 H' F2 as2 ∧ EnvR X.K ρ2 σ' F2 as2 ∧ PostS X.K X.mg T F2 as2 D Wx (whileL ct b k ρ2 μ2), fun σ' H' q => ⟨k, Nat.lt_succ_self k, q⟩, hb.run m3 (en2.mono e3) tk ?_⟩
      have p4 : PostS X.K X.mg T F3 as3 D Wx (match b ρ2 μ3 with
        | .nx ρ' μ' => whileL ct b k ρ' μ'
        | .ct ρ' μ' => whileL ct b k ρ' μ'
        | .bk ρ' μ' => .nx ρ' μ'
        | o => o) := PostS.ext p3 e3
      cases hbb : b ρ2 μ3 with
      | nx ρ4 μ4 => rw [hbb] at p4; exact fun σ5 H5 F5 as5 e5 m5 en5 => ⟨ρ4, μ4, F5, as5, (e2.trans e3).trans e5, m5, en5, PostS.ext p4 e5⟩
      | ct ρ4 μ4 => rw [hbb] at p4; exact fun σ5 H5 F5 as5 e5 m5 en5 => ⟨ρ4, μ4, F5, as5, (e2.trans e3).trans e5, m5, en5, PostS.ext p4 e5⟩
      | bk ρ4 μ4 => rw [hbb] at p4; exact p4
      | rt r μ4 => rw [hbb] at p4; exact p4
      | ex x ρ4 μ4 => rw [hbb] at p4; exact p4
      | no => rw [hbb] at p4; exact p4
end
end Em
set_option maxRecDepth 100000
namespace Em
open PySem PySem.Spec PyProof.Rows L2
def wipeR (ρ : Vr) : List Nat → Vr
  | [] => ρ
  | v :: vs => (wipeR ρ vs).set v none
theorem wipeR_len (ρ : Vr) : ∀ vs, (wipeR ρ vs).length = ρ.length
  | [] => rfl
  | v :: vs => by unfold wipeR; rw [List.length_set, wipeR_len ρ vs]
theorem wipeR_get {ρ : Vr} {i : Nat} : ∀ {vs : List Nat}, (wipeR ρ vs)[i]? = if i ∈ vs ∧ i < ρ.length then some none else ρ[i]?
  | [] => by simp [wipeR]
  | v :: vs => by
    unfold wipeR
    rw [List.getElem?_set]
    have ih := wipeR_get (ρ := ρ) (i := i) (vs := vs)
    by_cases hv : v = i
    · subst hv
      rw [if_pos rfl, wipeR_len]
      by_cases hl : v < ρ.length
      · rw [if_pos hl, if_pos ⟨by simp, hl⟩]
      · rw [if_neg hl, if_neg (by omega), List.getElem?_eq_none (by omega)]
    · rw [if_neg hv, ih]
      by_cases h : i ∈ vs ∧ i < ρ.length
      · rw [if_pos h, if_pos ⟨List.mem_cons_of_mem _ h.1, h.2⟩]
      · rw [if_neg h, if_neg]
        rintro ⟨h1, h2⟩
        rcases List.mem_cons.mp h1 with z | z
        · exact hv z.symm
        · exact h ⟨z, h2⟩
theorem wipe_get {σ : L2.St} {i : Nat} : ∀ {vs : List Nat}, (wipe σ vs)[i]? = if i ∈ vs ∧ i < σ.length then some none else σ[i]?
  | [] => by simp [wipe]
  | v :: vs => by
    unfold wipe
    rw [List.getElem?_set]
    have ih := wipe_get (σ := σ) (i := i) (vs := vs)
    by_cases hv : v = i
    · subst hv
      rw [if_pos rfl, wipe_length]
      by_cases hl : v < σ.length
      · rw [if_pos hl, if_pos ⟨by simp, hl⟩]
      · rw [if_neg hl, if_neg (by omega), List.getElem?_eq_none (by omega)]
    · rw [if_neg hv, ih]
      by_cases h : i ∈ vs ∧ i < σ.length
      · rw [if_pos h, if_pos ⟨List.mem_cons_of_mem _ h.1, h.2⟩]
      · rw [if_neg h, if_neg]
        rintro ⟨h1, h2⟩
        rcases List.mem_cons.mp h1 with z | z
        · exact hv z.symm
        · exact h ⟨z, h2⟩
theorem EnvR.wipe {K : PySem.W.Frag} {ρ : Vr} {σ : L2.St} {F : Hp} {as : List Addr} (en : EnvR K ρ σ F as) (vs : List Nat) : EnvR K (wipeR ρ vs) (L2.wipe σ vs) F as := by
  refine ⟨by rw [wipeR_len, wipe_length]; exact en.1, fun i r h => ?_⟩
  rw [wipeR_get] at h
  rw [wipe_get]
  by_cases q : i ∈ vs ∧ i < ρ.length
  · rw [if_pos q] at h; cases h
  · rw [if_neg q] at h
    rw [if_neg (by rw [← en.1]; exact q)]
    exact en.2 i r h
theorem wipe_same {σ σ' : L2.St} {sl vs : List Nat} (hl : σ'.length = (L2.wipe σ vs).length) (hk : ∀ j, j ∉ sl → σ'[j]? = (L2.wipe σ vs)[j]?) (hs : ∀ j ∈ sl, j ∈ vs) : L2.wipe σ' vs = L2.wipe σ vs := by
  rw [wipe_length] at hl
  apply List.ext_getElem?
  intro i
  rw [wipe_get]
  by_cases h : i ∈ vs ∧ i < σ'.length
  · rw [if_pos h, wipe_get, if_pos (by rw [← hl]; exact h)]
  · rw [if_neg h]
    by_cases hi : i ∈ vs
    · have hn : ¬ i < σ'.length := fun z => h ⟨hi, z⟩
      rw [List.getElem?_eq_none (by omega), List.getElem?_eq_none (by rw [wipe_length]; omega)]
    · exact hk i fun z => hi (hs i z)

/-! ### a comprehension's tests -/
def VTs (X : Cx) (ifs : List Expr) (σ : L2.St) (H : Hp) (Q : Bool → Hp → Prop) : Prop := ∀ (pins : List (Addr × Obj)) (s : Shared), Inv X pins σ H s →
  wpAny (model X.prog X.w) X.A (forIn ifs true fun c r => if r = true then do let ok ← isTrue c X.env (eval c X.env); pure (ForInStep.yield ok) else pure (ForInStep.yield r)) (TP X pins σ Q) X.xe s
theorem vts_of {X : Cx} {ifs : List Expr} {t : TT} {σ : L2.St} {H : Hp} {Q : Bool → Hp → Prop} (h : PTs X ifs t) (q : t σ H Q) : VTs X ifs σ H Q := fun pins s I => h.run pins s σ H Q I q
structure DTs (X : Cx) (T : Tb) (ifs : List Expr) (c : TC) : Prop where
  run : ∀ {ρ : Vr} {μ : Mem} {σ : L2.St} {H F : Hp} {as : List Addr}, Mm X.K T μ H F as → EnvR X.K ρ σ F as → ∀ {Q : Bool → Hp → Prop} {Wx : WX}, Takes X Wx → PostT X.K X.mg T σ F as Q Wx (c ρ μ) → VTs X ifs σ H Q
def cYes : TC := fun _ μ => .ok true μ
section
variable {X : Cx} {T : Tb} {pos : Pos}
theorem dts_nil : DTs X T [] cYes := ⟨fun {ρ μ σ H F as} m en {Q Wx} tk p => vts_of pts_nil (p H F as (Ext.refl _ _) m)⟩
theorem dts_one {e : Expr} {c : TC} (h : DT X T e c) : DTs X T [e] c := ⟨fun {ρ μ σ H F as} m en {Q Wx} tk p => vts_of (pts_one pt_self) (h.run m en tk p)⟩

/-! ### comprehensions -/
def lcF (own : List Nat) (g : GC) (tt : TC) (te : EC) (ρ : Vr) : D → Mem → Rs (Option D) := fun d μ => match g d (wipeR ρ own) with
  | some ρ' => match tt ρ' μ with
    | .ok true μ2 => match cD te ρ' μ2 with
      | .ok (.d x) μ3 => .ok (some x) μ3
      | _ => .no
    | .ok false μ2 => .ok none μ2
    | _ => .no
  | none => .no
def lcL (f : D → Mem → Rs (Option D)) (j : Itm) (n0 : Nat) : Nat → Nat → Mem → Rs R
  | 0, i, μ => if itLen j μ = some i then (match μ[n0]? with
      | some (.lst acc) => if μ.length = n0 + 1 then .ok (.fl acc) (μ.take n0) else .no
      | _ => .no) else .no
  | k + 1, i, μ => match itAt j i μ with
    | some d => match f d μ with
      | .ok (some x) μ' => match μ'[n0]? with
        | some (.lst acc) => if acc.length < sizeLine then lcL f j n0 k (i + 1) (μ'.set n0 (.lst (acc ++ [x]))) else .no
        | _ => .no
      | .ok none μ' => lcL f j n0 k (i + 1) μ'
      | _ => .no
    | none => .no
def cLc (ci : Vr → Mem → Rs Itm) (own : List Nat) (g : GC) (tt : TC) (te : EC) : EC := fun ρ μ => (ci ρ μ).bind fun j μ1 => match itLen j μ1 with
  | some n => lcL (lcF own g tt te ρ) j μ1.length n 0 (μ1 ++ [.lst []])
  | none => .no
abbrev BX (X : Cx) (scope : Scope) (s : Shared) (H : Hp) (C : Addr) (cl : List (Str × Addr)) (fp : List Addr) : Cx := X.blk s H scope (compEnvC scope cl C X.env) fp
def gAll (X : Cx) (scope : Scope) (tg : Expr) : TG := fun v σ H Q => ∀ (s : Shared) (H0 : Hp) (C : Addr) (cl : List (Str × Addr)) (fp : List Addr), VG (BX X scope s H0 C cl fp) tg v σ H Q
def tAll (X : Cx) (scope : Scope) (ifs : List Expr) : TT := fun σ H Q => ∀ (s : Shared) (H0 : Hp) (C : Addr) (cl : List (Str × Addr)) (fp : List Addr), VTs (BX X scope s H0 C cl fp) ifs σ H Q
def eAll (X : Cx) (scope : Scope) (e : Expr) : TE := fun σ H Q => ∀ (s : Shared) (H0 : Hp) (C : Addr) (cl : List (Str × Addr)) (fp : List Addr), VE (BX X scope s H0 C cl fp) e σ H Q
theorem lc_ok {tg iter elt : Expr} {ifs : List Expr} {scope : Scope} {vs sl : List Nat} {ci : Vr → Mem → Rs Itm} {g : GC} {tt : TC} {te : EC} (hi : DI X T tg iter ci) (hg : ∀ s H C cl fp, DG (BX X scope s H C cl fp) T tg sl g) (ht : ∀ s H C cl fp, DTs (BX X scope s H C cl fp) T ifs tt)
    (he : ∀ s H C cl fp, DE (BX X scope s H C cl fp) T elt te) (hsl : ∀ j ∈ sl, j ∈ vs) {ρ : Vr} {μ : Mem} {σ : L2.St} {H F : Hp} {as : List Addr} (m : Mm X.K T μ H F as) (en : EnvR X.K ρ σ F as) {Q : VK} {Wx : WX} (tk : Takes X Wx)
    (p : PostE X.K X.mg T σ F as Q Wx (cLc ci vs g tt te ρ μ)) : tLc (fun σ H Rq => VI X tg iter σ H Rq) (gAll X scope tg) (tAll X scope ifs) (eAll X scope elt) vs σ H Q := by
  refine hi.run (Wx := Wx) m en tk ?_
  unfold cLc at p
  cases hci : ci ρ μ with
  | no => rw [hci] at p; exact p
  | ex x μ' => rw [hci] at p; exact p
  | ok j μ1 =>
    rw [hci] at p
    intro J H1 F1 as1 e1 m1 jr Dl hD
    have p1 : PostE X.K X.mg T σ F1 as1 Q Wx (match itLen j μ1 with
      | some n => lcL (lcF vs g tt te ρ) j μ1.length n 0 (μ1 ++ [.lst []])
      | none => .no) := PostE.ext p e1
    cases hn : itLen j μ1 with
    | none => rw [hn] at p1; exact p1.elim
    | some n =>
      rw [hn] at p1
      have m0 : Mm X.K T (μ1 ++ [.lst []]) (upd H1 Dl (.lst [])) F1 (as1 ++ [Dl]) := (m1.alloc hD).adopt (m1.notin hD) ⟨m1.freeF hD, [], upd_same, .nil⟩
      have x1 : Ext F1 as1 F1 (as1 ++ [Dl]) := ⟨Same.refl _, [Dl], rfl⟩
      have at0 : ∀ {F2 : Hp} {as2 : List Addr}, Ext F1 (as1 ++ [Dl]) F2 as2 → as2[μ1.length]? = some Dl := fun e => e.get (by rw [m1.len, List.getElem?_append_right (Nat.le_refl _)]; simp)
      refine ⟨fun i k H2 => ∃ (μ2 : Mem) (F2 : Hp) (as2 : List Addr), Ext F1 (as1 ++ [Dl]) F2 as2 ∧ Mm X.K T μ2 H2 F2 as2 ∧ PostE X.K X.mg T σ F1 as1 Q Wx (lcL (lcF vs g tt te ρ) j μ1.length k i μ2), ⟨n, _, F1, _, Ext.refl _ _, m0, p1⟩, ?_⟩
      rintro i k H2 ⟨μ2, F2, as2, e2, m2, p2⟩
      obtain ⟨js, jg⟩ := jr F2 as2 μ2 H2 (x1.trans e2) m2 i
      cases k with
      | zero =>
        unfold lcL at p2
        by_cases hl : itLen j μ2 = some i
        · rw [if_pos hl] at p2
          refine .inl ⟨js hl, ?_⟩
          cases hc : μ2[μ1.length]? with
          | none => rw [hc] at p2; exact p2.elim
          | some c =>
            rw [hc] at p2
            cases c with
            | frz ds => exact p2.elim
            | dk ds => exact p2.elim
            | lst acc =>
              simp only at p2
              by_cases hlen : μ2.length = μ1.length + 1
              · rw [if_pos hlen] at p2
                obtain ⟨q1, vs', q2, q3⟩ := m2.cell _ _ _ hc (at0 e2)
                obtain ⟨sm, t, rfl⟩ := e2
                have ht0 : t = [] := by
                  have := m2.len
                  rw [hlen] at this
                  have l1 := m1.len
                  exact List.eq_nil_of_length_eq_zero (by simp only [List.length_append, List.length_cons, List.length_nil] at this; omega)
                subst ht0
                rw [List.append_nil] at m2
                exact p2 (.ref Dl) H2 F2 as1 (Ext.eqv sm) (m2.cut m1.len (m1.base.trans (Ext.eqv sm))) ⟨Dl, vs', rfl, m1.notin hD, q1, q2, q3⟩
              · rw [if_neg hlen] at p2; exact p2.elim
        · rw [if_neg hl] at p2; exact p2.elim
      | succ k =>
        unfold lcL at p2
        cases hd : itAt j i μ2 with
        | none => rw [hd] at p2; exact p2.elim
        | some d =>
          rw [hd] at p2
          obtain ⟨go, yld⟩ := jg d hd
          refine .inr ⟨go, fun H' => ∃ (μ2 : Mem) (F2 : Hp) (as2 : List Addr), Ext F1 (as1 ++ [Dl]) F2 as2 ∧ Mm X.K T μ2 H' F2 as2 ∧ PostE X.K X.mg T σ F1 as1 Q Wx (lcL (lcF vs g tt te ρ) j μ1.length k (i + 1) μ2), fun H' q => ⟨k, Nat.lt_succ_self k, q⟩, fun x H' y s0 H0 C cl fp => ?_⟩
          obtain ⟨F3, e3, m3, dx⟩ := yld x H' y
          have e23 := e2.trans e3
          have en3 : EnvR X.K (wipeR ρ vs) (L2.wipe σ vs) F3 as2 := (en.mono ((e1.trans x1).trans e23)).wipe vs
          unfold lcF at p2
          cases hgd : g d (wipeR ρ vs) with
          | none => simp only [hgd] at p2; exact p2.elim
          | some ρ' =>
            simp only [hgd] at p2
            refine (hg s0 H0 C cl fp).run m3 en3 dx hgd fun σ' en' hl hk => ⟨wipe_same hl hk hsl, fun s4 H4 C4 cl4 fp4 => ?_⟩
            refine (ht s4 H4 C4 cl4 fp4).run m3 en' takes0 ?_
            cases htt : tt ρ' μ2 with
            | no => simp only [htt] at p2; exact p2.elim
            | ex x μ' => simp only [htt] at p2; exact p2.elim
            | ok b μ4 =>
              simp only [htt] at p2
              intro H5 F5 as5 e5 m5
              have e235 := e23.trans e5
              cases b with
              | false => exact ⟨μ4, F5, as5, e235, m5, p2⟩
              | true =>
                intro s6 H6 C6 cl6 fp6
                refine ((he s6 H6 C6 cl6 fp6).data).run m5 (en'.mono e5) takes0 ?_
                cases hte : cD te ρ' μ4 with
                | no => simp only [hte] at p2; exact p2.elim
                | ex x μ' => simp only [hte] at p2; exact p2.elim
                | ok r μ7 =>
                  simp only [hte] at p2
                  cases r with
                  | c n => exact p2.elim
                  | fl ds => exact p2.elim
                  | fk ds => exact p2.elim
                  | o b => exact p2.elim
                  | d x7 =>
                    intro v7 H7 F7 as7 e7 m7 r7
                    have e2357 := e235.trans e7
                    simp only at p2
                    cases hc : μ7[μ1.length]? with
                    | none => rw [hc] at p2; exact p2.elim
                    | some c =>
                      rw [hc] at p2
                      cases c with
                      | frz ds => exact p2.elim
                      | dk ds => exact p2.elim
                      | lst acc =>
                        simp only at p2
                        obtain ⟨q1, vs', q2, q3⟩ := m7.cell _ _ _ hc (at0 e2357)
                        by_cases hsz : acc.length < sizeLine
                        · rw [if_pos hsz] at p2
                          refine ⟨vs', q2, by rw [q3.length]; exact hsz, _, F7, as7, e2357, m7.write (c' := .lst (acc ++ [x7])) (at0 e2357) q1 q2 (fun ps z => by cases z) (fun φ z => by cases z) ⟨q1, _, upd_same, q3.append (.cons r7 .nil)⟩, p2⟩
                        · rw [if_neg hsz] at p2; exact p2.elim
theorem de_lc {tg iter elt : Expr} {ifs : List Expr} {scope : Scope} {own : List (Str × Nat)} {sl : List Nat} {ci : Vr → Mem → Rs Itm} {g : GC} {tt : TC} {te : EC} (hN : X.N.Nodup) (hi : DI X T tg iter ci) (ok : BlkOk X.N X.env.scope scope own) (hg : ∀ s H C cl fp, DG (BX X scope s H C cl fp) T tg sl g) (ht : ∀ s H C cl fp, DTs (BX X scope s H C cl fp) T ifs tt)
    (he : ∀ s H C cl fp, DE (BX X scope s H C cl fp) T elt te) (hsl : ∀ j ∈ sl, j ∈ own.map (·.2) := by decide) (hc : X.calm = true := by rfl) (hs : ∀ x, foldedSetIterable iter X.env x = pure x := by intro _; rfl) :
    DE X T (.ListComp elt [⟨tg, iter, ifs, 0⟩] scope pos) (cLc ci (own.map (·.2)) g tt te) :=
  ⟨fun {_ _ _ _ _ _} m en {_ _} tk p => ve_of (pe_lc (te := eAll X scope elt) (g := gAll X scope tg) (tt := tAll X scope ifs) hc hN pi_self ok (fun s H C cl fp => ⟨fun pins s' σ H' v u Q I r h => h s H C cl fp pins s' u I r⟩) (fun s H C cl fp => ⟨fun pins s' σ H' Q I h => h s H C cl fp pins s' I⟩) (fun s H C cl fp => ⟨fun pins s' σ H' Q I h => h s H C cl fp pins s' I⟩) hs) (lc_ok hi hg ht he hsl m en tk p)⟩
/-- name = [..] -/
theorem ds_setLc (i : Nat) {y : Str} {py : Pos} {tg iter elt : Expr} {ifs : List Expr} {scope : Scope} {own : List (Str × Nat)} {sl : List Nat} {ci : Vr → Mem → Rs Itm} {g : GC} {tt : TC} {te : EC} {spos : Pos} (kind : EC → EC) (hkind : kind = cA ∨ kind = cD) (hN : X.N.Nodup) (hi : DI X T tg iter ci) (ok : BlkOk X.N X.env.scope scope own) (hg : ∀ s H C cl fp, DG (BX X scope s H C cl fp) T tg sl g) (ht : ∀ s H C cl fp, DTs (BX X scope s H C cl fp) T ifs tt)
    (he : ∀ s H C cl fp, DE (BX X scope s H C cl fp) T elt te) (hsl : ∀ j ∈ sl, j ∈ own.map (·.2) := by decide) (hc : X.calm = true := by rfl) (hs : ∀ x, foldedSetIterable iter X.env x = pure x := by intro _; rfl)
    (hy : X.N[i]? = some y := by rfl) (hyl : X.env.scope.names.lookup y = some .local := by rfl) (hsw : swapsWith (.ListComp elt [⟨tg, iter, ifs, 0⟩] scope pos) (some (.Name y py)) spos.line X.env = pure true := by exact sw_true rfl rfl rfl (by decide +kernel)) :
    DS X T (.Assign [.Name y py] (.ListComp elt [⟨tg, iter, ifs, 0⟩] scope pos) spos) (sSet i (kind (cLc ci (own.map (·.2)) g tt te))) := by
  refine ⟨fun {ρ μ σ H F as} m en {D Wx} tk p => vs_of (ps_setLc (te := eAll X scope elt) (g := gAll X scope tg) (tt := tAll X scope ifs) hc hN hy hyl hsw pi_self ok (fun s H C cl fp => ⟨fun pins s' σ H' v u Q I r h => h s H C cl fp pins s' u I r⟩) (fun s H C cl fp => ⟨fun pins s' σ H' Q I h => h s H C cl fp pins s' I⟩) (fun s H C cl fp => ⟨fun pins s' σ H' Q I h => h s H C cl fp pins s' I⟩) hs) ?_⟩
  refine lc_ok (Wx := Wx) hi hg ht he hsl m en tk ?_
  have wk : PostW X.K X.mg T σ F as (fun v H' => D.nx (σ.set i (some v)) H') Wx (kind (cLc ci (own.map (·.2)) g tt te) ρ μ) := w_then en p fun a μ' p' v H' F' as' e m' r => p' _ H' F' as' e m' ((en.mono e).set r i)
  rcases hkind with rfl | rfl
  · unfold cA at wk
    refine e_bind (P := PostW X.K X.mg T σ F as (fun v H' => D.nx (σ.set i (some v)) H') Wx) (fun _ _ p => p) (fun p => p) wk fun a μ' p' v H' F' as' ex m' r => ?_
    cases hh : adopt a μ' with
    | ok r' μ2 =>
      rw [hh] at p'
      obtain ⟨F2, as2, e2, m2, r2⟩ := adopt_ok m' r hh
      exact p' v H' F2 as2 (ex.trans e2) m2 r2
    | ex x μ2 => cases a <;> cases hh
    | no => cases a <;> cases hh
  · unfold cD at wk
    refine e_bind (P := PostW X.K X.mg T σ F as (fun v H' => D.nx (σ.set i (some v)) H') Wx) (fun _ _ p => p) (fun p => p) wk fun a μ' p' v H' F' as' ex m' r => ?_
    cases hh : toD a μ' with
    | ok r' μ2 =>
      rw [hh] at p'
      obtain ⟨F2, d, rfl, e2, m2, r2⟩ := toD_ok m' r hh
      exact p' v H' F2 as' (ex.trans e2) m2 r2
    | ex x μ2 =>
      cases a <;> simp only [toD] at hh <;> try cases hh
      split at hh <;> cases hh
    | no => rw [hh] at p'; exact p'.elim
end
end Em
set_option maxRecDepth 100000
namespace Em
open PySem PySem.Spec PyProof.Rows L2
section
variable {X : Cx} {T : Tb} {pos : Pos}
/-! ### arithmetic -/
def opAdd (ra rb : R) (μ : Mem) : Rs R := match see ra μ, see rb μ with
  | some (.int i), some (.int j) => .ok (.d (.int (i + j))) μ
  | some (.str i), some (.str j) => if i.length + j.length ≤ sizeLine then .ok (.d (.str (i ++ j))) μ else .no
  | some (.list xs), some (.list ys) => if xs.length + ys.length ≤ sizeLine then .ok (.fl (xs ++ ys)) μ else .no
  | some (.tuple xs), some (.tuple ys) => if xs.length + ys.length ≤ sizeLine then .ok (.d (.tuple (xs ++ ys))) μ else .no
  | _, _ => .no
/-- + of two lists, wherever they stand -/
def rCatL : R2 := fun x y H Q => ∃ l b xs zs, x = .ref l ∧ y = .ref b ∧ Rd H l (.lst xs) ∧ Rd H b (.lst zs) ∧ xs.length + zs.length ≤ sizeLine ∧ ∀ p, H p = none → Q (.ref p) (upd H p (.lst (xs ++ zs)))
theorem op_catL : OpR X (binaryOp .Add) rCatL := by
  intro pins s σ H x y v u Q I rx ry h
  obtain ⟨l, b, xs, zs, rfl, rfl, hl, hb, hz, q⟩ := h
  cases rx
  cases ry
  obtain ⟨z1, its, n, r, e⟩ := hl.ok I.hok
  obtain ⟨z2, its2, n2, r2, e2⟩ := hb.ok I.hok
  have l1 := r.length
  have l2 := r2.length
  refine PySem.P.add_list e e2 ?_ (by rw [List.size_toArray, List.size_toArray]; omega)
  rw [show its.toArray ++ its2.toArray = (its ++ its2).toArray by simp]
  exact ⟨.ref _, _, I.lnew (t' := s.toks) (r.append r2) (by rw [List.length_append]; omega), rfl, q _ I.fresh⟩
theorem od_add : OpD X T (binaryOp .Add) opAdd := by
  refine ⟨fun {μ H F as ra rb x y} m r1 r2 {σ Q Wx} p => ?_⟩
  unfold opAdd at p
  split at p
  · rename_i i j h1 h2
    exact ⟨_, op_add, i, j, see_int r1 h1, see_int r2 h2, p _ H F as (Ext.refl _ _) m (.int _)⟩
  · rename_i i j h1 h2
    split at p
    · rename_i hle
      exact ⟨_, op_add_str, i, j, see_str r1 h1, see_str r2 h2, hle, p _ H F as (Ext.refl _ _) m (.str _)⟩
    · exact p.elim
  · rename_i xs ys h1 h2
    obtain ⟨a, vs, rfl, q1, d1⟩ := see_list m r1 h1
    obtain ⟨b, ws, rfl, q2, d2⟩ := see_list m r2 h2
    split at p
    · rename_i hle
      exact ⟨_, op_catL, a, b, vs, ws, rfl, rfl, q1, q2, by rw [d1.length, d2.length]; exact hle, fun q hq => p _ _ F as (Ext.refl _ _) (m.alloc hq) ⟨q, _, rfl, m.notin hq, m.freeF hq, upd_same, d1.append d2⟩⟩
    · exact p.elim
  · rename_i xs ys h1 h2
    obtain ⟨a, vs, rfl, q1, f1, d1⟩ := see_tup m r1 h1
    obtain ⟨b, ws, rfl, q2, f2, d2⟩ := see_tup m r2 h2
    split at p
    · rename_i hle
      refine ⟨_, op_catA, a, b, vs, ws, rfl, rfl, q1, q2, by rw [d1.length, d2.length]; exact hle, fun e => ?_, fun _ e => ?_, fun _ _ q hq => ?_⟩
      · have z := d1.append d2
        rw [e, List.nil_append] at z
        exact p _ H F as (Ext.refl _ _) m (.tup f2 z)
      · have z := d1.append d2
        rw [e, List.append_nil] at z
        exact p _ H F as (Ext.refl _ _) m (.tup f1 z)
      · have hF := m.freeF hq
        exact p _ _ _ as (Ext.new hF) ((m.alloc hq).freeze hF upd_same (m.notin hq) (fun ps z => by cases z)) (.tup (.inl (.inl upd_same)) (DqAll_mono (same_new hF) (d1.append d2)))
    · exact p.elim
  · exact p.elim
/-- ints in, an int out, under a condition -/
def opII (C : Int → Int → Bool) (f : Int → Int → Int) (ra rb : R) (μ : Mem) : Rs R := match see ra μ, see rb μ with
  | some (.int i), some (.int j) => if C i j = true then .ok (.d (.int (f i j))) μ else .no
  | _, _ => .no
theorem od_II {op : Value → Value → Sem Value} {C : Int → Int → Bool} {f : Int → Int → Int} {r : R2} (h : OpR X op r) (hr : ∀ (i j : Int) (H : Hp) (Q : VK), C i j = true → Q (.int (f i j)) H → r (.int i) (.int j) H Q) : OpD X T op (opII C f) := by
  refine ⟨fun {μ H F as ra rb x y} m r1 r2 {σ Q Wx} p => ?_⟩
  unfold opII at p
  split at p
  · rename_i i j h1 h2
    obtain rfl := see_int r1 h1
    obtain rfl := see_int r2 h2
    split at p
    · rename_i hc
      exact ⟨_, h, hr i j H Q hc (p _ H F as (Ext.refl _ _) m (.int _))⟩
    · exact p.elim
  · exact p.elim
abbrev opSub := opII (fun _ _ => true) (fun i j => i - j)
theorem od_sub : OpD X T (binaryOp .Sub) opSub := od_II op_sub fun i j H Q _ q => ⟨i, j, rfl, rfl, q⟩
def cDivB (i j : Int) : Bool := decide (0 < j ∧ j < 1073741824)
abbrev opDiv := opII cDivB (fun i j => i / j)
theorem od_div : OpD X T (binaryOp .FloorDiv) opDiv := od_II op_fdiv fun i j H Q c q => ⟨i, j, rfl, rfl, (show 0 < j ∧ j < 1073741824 from of_decide_eq_true c), q⟩
abbrev opMod := opII (fun _ j => decide (0 < j)) (fun i j => i % j)
theorem od_mod : OpD X T (binaryOp .Mod) opMod := od_II op_mod fun i j H Q c q => ⟨i, j, rfl, rfl, of_decide_eq_true c, q⟩
abbrev opPow := opII (fun i j => decide (0 ≤ j ∧ j ≤ 1000000 ∧ i.natAbs < 2 ^ 64)) (fun i j => i ^ j.toNat)
theorem od_pow : OpD X T (binaryOp .Pow) opPow := od_II op_pow fun i j H Q c q => ⟨i, j, rfl, rfl, (show 0 ≤ j ∧ j ≤ 1000000 ∧ i.natAbs < 2 ^ 64 from of_decide_eq_true c), q⟩
/-- a text so many times -/
def strRep (x : Str) (n : Int) : Str := ⟨((List.replicate n.toNat x.cps.toList).flatten).toArray⟩
theorem foldl_codes (l : List Nat) : ∀ (k : Nat) (acc : List Nat), List.foldl (fun x1 x2 => x1 ++ x2) acc.toArray (List.replicate k l.toArray) = (acc ++ (List.replicate k l).flatten).toArray
  | 0, acc => by simp
  | k + 1, acc => by
    have ih := foldl_codes l k (acc ++ l)
    rw [List.replicate_succ, List.foldl_cons, List.replicate_succ, List.flatten_cons, ← List.append_assoc, ← ih]
    simp
def rRepS : R2 := fun x y H Q => ∃ z n, x = .str z ∧ y = .int n ∧ -1000000 ≤ n ∧ n ≤ 100000 ∧ z.length ≤ 100 ∧ Q (.str (strRep z n)) H
theorem strRep_one (z : Str) : strRep z 1 = z := by
  unfold strRep
  simp
theorem op_repS : OpR X (binaryOp .Mult) rRepS := by
  intro pins s σ H x y v u Q I rx ry h
  obtain ⟨z, n, rfl, rfl, h1, h2, h3, q⟩ := h
  obtain ⟨t, rfl⟩ := rx
  obtain ⟨t', rfl⟩ := ry
  refine PySem.P.mul_str ?_ (fun hn _ => ?_) (fun hn _ => ?_) ?_
  · rw [decide_eq_false (by omega), decide_eq_false (by omega)]; rfl
  · intro hgt
    have : (z.length : Int) ≤ 100 := by omega
    have h4 : (2 ^ 63 - 1) / 100000 ≤ (2 ^ 63 - 1) / n := by
      refine Int.le_ediv_of_mul_le (by omega) ?_
      have : (2 ^ 63 - 1 : Int) / 100000 * n ≤ (2 ^ 63 - 1) / 100000 * 100000 := Int.mul_le_mul_of_nonneg_left (by omega) (by decide)
      exact Int.le_trans this (by decide)
    have h5 : (100 : Int) < (2 ^ 63 - 1) / 100000 := by decide
    omega
  · have a1 : z.length * n.toNat ≤ 100 * 100000 := Nat.mul_le_mul h3 (by omega)
    unfold Builtin.Str.tooLong
    rw [decide_eq_false]
    unfold sizeLine
    omega
  · have key : strRep z n = ⟨(List.replicate n.toNat z.cps).foldl (· ++ ·) #[]⟩ := by
      unfold strRep
      have := foldl_codes z.cps.toList n.toNat []
      rw [List.nil_append] at this
      rw [← this]
    have hsz : (strRep z n).length ≤ sizeLine := by
      unfold strRep Str.length
      simp only [List.size_toArray, List.length_flatten, List.map_replicate, List.sum_replicate_nat]
      have : z.cps.toList.length ≤ 100 := by rw [Array.length_toList]; exact h3
      have a1 : n.toNat * z.cps.toList.length ≤ 100000 * 100 := Nat.mul_le_mul (by omega) this
      unfold sizeLine
      omega
    split
    · rename_i hn
      have e : strRep z n = Str.empty := by
        unfold strRep
        rw [show n.toNat = 0 by omega]
        rfl
      rw [e] at q
      exact ⟨by decide, .str _, H, I.tok _, ⟨_, rfl⟩, q⟩
    · split
      · rename_i hn hn2
        have e : strRep z n = z := by
          rcases Bool.or_eq_true_iff.mp hn2 with h | h
          · rw [eq_of_beq h]; exact strRep_one z
          · have h0 : z.cps.toList = [] := by
              have : z.cps.size = 0 := eq_of_beq h
              exact List.eq_nil_of_length_eq_zero (by simpa using this)
            unfold strRep
            rw [h0]
            have : (List.replicate n.toNat ([] : List Nat)).flatten = [] := by simp
            rw [this]
            have h00 : z.cps = #[] := by
              apply Array.toList_inj.mp
              rw [h0]
            cases z
            simp only at h00
            rw [h00]
        rw [e] at q
        exact ⟨.str _, H, I, ⟨_, rfl⟩, q⟩
      · rw [← key]
        exact ⟨hsz, .str _, H, I.tok _, ⟨_, rfl⟩, q⟩
def opMul (ra rb : R) (μ : Mem) : Rs R := match see ra μ, see rb μ with
  | some (.int i), some (.int j) => if (-(2 ^ 64) < i ∧ i < 2 ^ 64) ∨ (-(2 ^ 64) < j ∧ j < 2 ^ 64) then .ok (.d (.int (i * j))) μ else .no
  | some (.str z), some (.int n) => if -1000000 ≤ n ∧ n ≤ 100000 ∧ z.length ≤ 100 then .ok (.d (.str (strRep z n))) μ else .no
  | some (.list xs), some (.int n) => if -1000000 ≤ n ∧ n ≤ 1000000 ∧ xs.length * n.toNat ≤ sizeLine then .ok (.fl (List.replicate n.toNat xs).flatten) μ else .no
  | _, _ => .no
theorem rep_all {K : PySem.W.Frag} {F : Hp} {vs : List V} {ds : List D} (h : DqAll K F vs ds) : ∀ n, DqAll K F (List.replicate n vs).flatten (List.replicate n ds).flatten
  | 0 => .nil
  | n + 1 => by rw [List.replicate_succ, List.replicate_succ, List.flatten_cons, List.flatten_cons]; exact h.append (rep_all h n)
def rRepL : R2 := fun x y H Q => ∃ l k xs, x = .ref l ∧ y = .int k ∧ Rd H l (.lst xs) ∧ -(2 ^ 63) ≤ k ∧ k < 2 ^ 63 ∧ xs.length * k.toNat ≤ sizeLine ∧ ∀ p, H p = none → Q (.ref p) (upd H p (.lst (List.replicate k.toNat xs).flatten))
theorem od_mul (hL : OpR X (binaryOp .Mult) rRepL) : OpD X T (binaryOp .Mult) opMul := by
  refine ⟨fun {μ H F as ra rb x y} m r1 r2 {σ Q Wx} p => ?_⟩
  unfold opMul at p
  split at p
  · rename_i i j h1 h2
    split at p
    · rename_i hc
      exact ⟨_, op_mul, i, j, see_int r1 h1, see_int r2 h2, hc, p _ H F as (Ext.refl _ _) m (.int _)⟩
    · exact p.elim
  · rename_i i j h1 h2
    split at p
    · rename_i hc
      exact ⟨_, op_repS, i, j, see_str r1 h1, see_int r2 h2, hc.1, hc.2.1, hc.2.2, p _ H F as (Ext.refl _ _) m (.str _)⟩
    · exact p.elim
  · rename_i xs n h1 h2
    obtain ⟨a, vs, rfl, q1, d1⟩ := see_list m r1 h1
    split at p
    · rename_i hc
      exact ⟨_, hL, a, n, vs, rfl, see_int r2 h2, q1, by omega, by omega, by rw [d1.length]; exact hc.2.2, fun q hq => p _ _ F as (Ext.refl _ _) (m.alloc hq) ⟨q, _, rfl, m.notin hq, m.freeF hq, upd_same, rep_all d1 _⟩⟩
    · exact p.elim
  · exact p.elim
/-! one operand -/
def cNeg (c : EC) : EC := fun ρ μ => (c ρ μ).bind fun r μ1 => match r with
  | .d (.int i) => .ok (.d (.int (-i))) μ1
  | _ => .no
theorem de_neg {a : Expr} {c : EC} (h : DE X T a c) : DE X T (.UnaryOp .USub a pos) (cNeg c) := by
  refine ⟨fun {ρ μ σ H F as} m en {Q Wx} tk p => ve_of (pe_un un_neg pe_self) (h.run m en tk (e_bind (P := PostE X.K X.mg T σ F as Q Wx) (fun _ _ p => p) (fun p => p) p fun r μ1 p1 v H1 F1 as1 e1 m1 r1 => ?_))⟩
  cases r with
  | d x =>
    cases x with
    | int i => cases r1; exact ⟨i, rfl, p1 _ H1 F1 as1 e1 m1 (.int _)⟩
    | _ => exact p1.elim
  | _ => exact p1.elim

/-! ### comparisons -/
/-- two ints or two texts -/
def opOrd (fi : Int → Int → Bool) (fs : List Nat → List Nat → Bool) (ra rb : R) (μ : Mem) : Rs R := match see ra μ, see rb μ with
  | some (.int i), some (.int j) => .ok (.d (.bool (fi i j))) μ
  | some (.str i), some (.str j) => .ok (.d (.bool (fs i.cps.toList j.cps.toList))) μ
  | _, _ => .no
theorem od_ord {op : Value → Value → Sem Value} {fi : Int → Int → Bool} {fs : List Nat → List Nat → Bool} {r r' : R2} (h : OpR X op r) (h' : OpR X op r') (hr : ∀ (i j : Int) (H : Hp) (Q : VK), Q (.bl (fi i j)) H → r (.int i) (.int j) H Q)
    (hs : ∀ (i j : Str) (H : Hp) (Q : VK), Q (.bl (fs i.cps.toList j.cps.toList)) H → r' (.str i) (.str j) H Q) : OpD X T op (opOrd fi fs) := by
  refine ⟨fun {μ H F as ra rb x y} m r1 r2 {σ Q Wx} p => ?_⟩
  unfold opOrd at p
  split at p
  · rename_i i j h1 h2
    obtain rfl := see_int r1 h1
    obtain rfl := see_int r2 h2
    exact ⟨_, h, hr i j H Q (p _ H F as (Ext.refl _ _) m (.bl _))⟩
  · rename_i i j h1 h2
    obtain rfl := see_str r1 h1
    obtain rfl := see_str r2 h2
    exact ⟨_, h', hs i j H Q (p _ H F as (Ext.refl _ _) m (.bl _))⟩
  · exact p.elim
abbrev opLt := opOrd (fun i j => decide (i < j)) (fun i j => decide (i < j))
abbrev opLe := opOrd (fun i j => decide (i ≤ j)) (fun i j => !decide (j < i))
abbrev opGt := opOrd (fun i j => decide (j < i)) (fun i j => decide (j < i))
abbrev opGe := opOrd (fun i j => decide (j ≤ i)) (fun i j => !decide (i < j))
theorem od_lt : OpD X T (compareOp .Lt) opLt := od_ord op_lt op_lt_str (fun i j H Q q => ⟨i, j, rfl, rfl, q⟩) (fun i j H Q q => ⟨i, j, rfl, rfl, q⟩)
theorem od_le : OpD X T (compareOp .LtE) opLe := od_ord op_le op_le_str (fun i j H Q q => ⟨i, j, rfl, rfl, q⟩) (fun i j H Q q => ⟨i, j, rfl, rfl, q⟩)
theorem od_gt : OpD X T (compareOp .Gt) opGt := od_ord op_gt op_gt_str (fun i j H Q q => ⟨i, j, rfl, rfl, q⟩) (fun i j H Q q => ⟨i, j, rfl, rfl, q⟩)
theorem od_ge : OpD X T (compareOp .GtE) opGe := od_ord op_ge op_ge_str (fun i j H Q q => ⟨i, j, rfl, rfl, q⟩) (fun i j H Q q => ⟨i, j, rfl, rfl, q⟩)
/-- flat data -/
def flatD : D → Bool
  | .none => true
  | .bool _ => true
  | .int _ => true
  | .str _ => true
  | _ => false
/-- two of a kind, flat -/
def kinD : D → D → Bool
  | .none, .none => true
  | .int _, .int _ => true
  | .bool _, .bool _ => true
  | .str _, .str _ => true
  | .none, .int _ => true
  | .none, .bool _ => true
  | .none, .str _ => true
  | .int _, .none => true
  | .bool _, .none => true
  | .str _, .none => true
  | .int _, .str _ => true
  | .str _, .int _ => true
  | .bool _, .str _ => true
  | .str _, .bool _ => true
  | _, _ => false
theorem kin_scal {K : PySem.W.Frag} {F : Hp} {x y : V} {d e : D} (h : Dq K F x d) (h' : Dq K F y e) (k : kinD d e = true) : scal x y = true ∧ decide (x = y) = PyData.eqv d e := by
  cases h <;> cases h' <;> first
    | (simp [kinD] at k; done)
    | (refine ⟨rfl, ?_⟩; simp [PyData.eqv]; done)
    | (refine ⟨rfl, ?_⟩; simp only [PyData.eqv, V.int.injEq, V.str.injEq, V.bl.injEq]; exact (Bool.beq_eq_decide_eq _ _).symm)
def opEq (neg : Bool) (ra rb : R) (μ : Mem) : Rs R := match see ra μ, see rb μ with
  | some d, some e => if kinD d e = true ∨ (SeqAt.shaped d = true ∧ SeqAt.shaped e = true) then .ok (.d (.bool (if neg = true then !PyData.eqv d e else PyData.eqv d e))) μ else .no
  | _, _ => .no
theorem od_eq {k : Nat} (hr : Room k X.A) : OpD X T (compareOp .Eq) (opEq false) := by
  refine ⟨fun {μ H F as ra rb x y} m r1 r2 {σ Q Wx} p => ?_⟩
  unfold opEq at p
  split at p
  · rename_i d e h1 h2
    have d1 := see_Dq m r1 h1
    have d2 := see_Dq m r2 h2
    split at p
    · rename_i hc
      have q := p (.bl (PyData.eqv d e)) H F as (Ext.refl _ _) m (.bl _)
      by_cases hk : kinD d e = true
      · obtain ⟨s1, s2⟩ := kin_scal d1 d2 hk
        exact ⟨_, op_eq, s1, by rw [s2]; exact q⟩
      · obtain ⟨s1, s2⟩ := hc.resolve_left hk
        exact ⟨_, op_eqD hr.units, d, e, d1.dp, d2.dp, s1, s2, q⟩
    · exact p.elim
  · exact p.elim
theorem od_ne {k : Nat} (hr : Room k X.A) : OpD X T (compareOp .NotEq) (opEq true) := by
  refine ⟨fun {μ H F as ra rb x y} m r1 r2 {σ Q Wx} p => ?_⟩
  unfold opEq at p
  split at p
  · rename_i d e h1 h2
    have d1 := see_Dq m r1 h1
    have d2 := see_Dq m r2 h2
    split at p
    · rename_i hc
      have q := p (.bl (!PyData.eqv d e)) H F as (Ext.refl _ _) m (.bl _)
      by_cases hk : kinD d e = true
      · obtain ⟨s1, s2⟩ := kin_scal d1 d2 hk
        exact ⟨_, op_ne, s1, by rw [s2]; exact q⟩
      · obtain ⟨s1, s2⟩ := hc.resolve_left hk
        exact ⟨_, op_neD hr.units, d, e, d1.dp, d2.dp, s1, s2, q⟩
    · exact p.elim
  · exact p.elim
/-- is None -/
def opIsN (neg : Bool) (ra rb : R) (μ : Mem) : Rs R := match rb with
  | .d .none => match ra with
    | .d .none => .ok (.d (.bool (!neg))) μ
    | .d _ => .ok (.d (.bool neg)) μ
    | .c _ => .ok (.d (.bool neg)) μ
    | _ => .no
  | _ => .no
theorem dq_non {K : PySem.W.Frag} {F : Hp} {x : V} {d : D} (h : Dq K F x d) : decide (x = .non) = (match d with | .none => true | _ => false) := by
  cases h <;> rfl
theorem od_isN : OpD X T (compareOp .Is) (opIsN false) := by
  refine ⟨fun {μ H F as ra rb x y} m r1 r2 {σ Q Wx} p => ?_⟩
  cases rb with
  | d e =>
    cases e with
    | none =>
      cases r2
      refine ⟨_, op_isN, rfl, ?_⟩
      cases ra with
      | d d0 =>
        have z := dq_non r1
        rw [z]
        cases d0 <;> exact p _ H F as (Ext.refl _ _) m (.bl _)
      | c n => obtain ⟨a, _, rfl⟩ := r1; exact p _ H F as (Ext.refl _ _) m (.bl _)
      | fl ds => exact p.elim
      | fk ds => exact p.elim
      | o b => exact p.elim
    | _ => exact p.elim
  | _ => exact p.elim
theorem od_isNotN : OpD X T (compareOp .IsNot) (opIsN true) := by
  refine ⟨fun {μ H F as ra rb x y} m r1 r2 {σ Q Wx} p => ?_⟩
  cases rb with
  | d e =>
    cases e with
    | none =>
      cases r2
      refine ⟨_, op_notN, rfl, ?_⟩
      cases ra with
      | d d0 =>
        have z := dq_non r1
        rw [z]
        cases d0 <;> exact p _ H F as (Ext.refl _ _) m (.bl _)
      | c n => obtain ⟨a, _, rfl⟩ := r1; exact p _ H F as (Ext.refl _ _) m (.bl _)
      | fl ds => exact p.elim
      | fk ds => exact p.elim
      | o b => exact p.elim
    | _ => exact p.elim
  | _ => exact p.elim
/-! a op b op' c -/
def cChain (o o' : R → R → Mem → Rs R) (a b c : EC) : EC := fun ρ μ => (a ρ μ).bind fun ra μ1 => (b ρ μ1).bind fun rb μ2 => (o ra rb μ2).bind fun r μ3 => (bT r μ3).bind fun k μ4 =>
  if k = true then (c ρ μ4).bind fun rc μ5 => o' rb rc μ5 else .ok (.d (.bool false)) μ4
theorem chain_run {a b c : Expr} {ca cb cc : EC} {f f' : Value → Value → Sem Value} {o o' : R → R → Mem → Rs R} (ho : OpD X T f o) (ho' : OpD X T f' o') (ha : DW X T a ca) (hb : DW X T b cb) (hc : DW X T c cc) {ρ : Vr} {μ : Mem} {σ : L2.St} {H F : Hp} {as : List Addr} (m : Mm X.K T μ H F as) (en : EnvR X.K ρ σ F as) {Q : VK} {Wx : WX} (tk : Takes X Wx)
    (p : PostE X.K X.mg T σ F as Q Wx (cChain o o' ca cb cc ρ μ)) : tChain (rAll2 X f) (rAll2 X f') (fun σ H Q => VE X a σ H Q) (fun σ H Q => VE X b σ H Q) (fun σ H Q => VE X c σ H Q) σ H Q := by
  refine ha.run m en tk (w_bind (P := PostE X.K X.mg T σ F as Q Wx) (fun _ _ p => p) (fun p => p) p fun ra μ1 p1 x H1 F1 as1 e1 m1 r1 => ?_)
  refine hb.run m1 (en.mono e1) tk (w_bind (P := PostE X.K X.mg T σ F1 as1 Q Wx) (fun _ _ p => p) (fun p => p) (p1.ext e1) fun rb μ2 p2 y H2 F2 as2 e2 m2 r2 => ?_)
  have p2' := p2.ext e2
  refine ho.run (Wx := Wx) (σ := σ) m2 (r1.mono e2) r2 (e_bind (P := PostE X.K X.mg T σ F2 as2 Q Wx) (fun _ _ p => p) (fun p => p) p2' fun r μ3 p3 v H3 F3 as3 e3 m3 r3 => ?_)
  obtain ⟨k, rfl, p4⟩ := bT_cases (P := PostE X.K X.mg T σ F2 as2 Q Wx) (fun p => p) p3
  cases r3
  refine ⟨k, rfl, ?_⟩
  cases k with
  | false => exact p4 _ H3 F3 as3 e3 m3 (.bl false)
  | true =>
    refine hc.run m3 (en.mono ((e1.trans e2).trans e3)) tk (w_bind (P := PostE X.K X.mg T σ F3 as3 Q Wx) (fun _ _ p => p) (fun p => p) (p4.ext e3) fun rc μ5 p5 w H5 F5 as5 e5 m5 r5 => ?_)
    exact ho'.run m5 (r2.mono (e3.trans e5)) r5 (p5.ext e5)
theorem de_chain {op op' : CmpOp} {a b c : Expr} {ca cb cc : EC} {o o' : R → R → Mem → Rs R} (ho : OpD X T (compareOp op) o) (ho' : OpD X T (compareOp op') o') (ha : DW X T a ca) (hb : DW X T b cb) (hc : DW X T c cc)
    (hm : lastMarks [op, op'] [b, c] = false := by with_unfolding_all rfl) : DE X T (.Compare a [op, op'] [b, c] pos) (cChain o o' ca cb cc) :=
  ⟨fun {_ _ _ _ _ _} m en {_ _} tk p => ve_of (pe_chain all2 all2 pe_self pe_self pe_self hm) (chain_run ho ho' ha hb hc m en tk p)⟩
theorem dt_chain {op op' : CmpOp} {a b c : Expr} {ca cb cc : EC} {o o' : R → R → Mem → Rs R} (ho : OpD X T (compareOp op) o) (ho' : OpD X T (compareOp op') o') (ha : DW X T a ca) (hb : DW X T b cb) (hc : DW X T c cc)
    (hm : lastMarks [op, op'] [b, c] = false := by with_unfolding_all rfl) : DT X T (.Compare a [op, op'] [b, c] pos) (cT (cChain o o' ca cb cc)) :=
  ⟨fun {_ _ _ _ _ _} m en {_ _} tk p => vt_of (pt_chain all2 all2 pe_self pe_self pe_self hm) (chain_run ho ho' ha hb hc m en tk (t_of_e p))⟩
end
end Em
set_option maxRecDepth 100000
namespace Em
open PySem PySem.Spec PyProof.Rows L2
section
variable {X : Cx} {T : Tb} {pos : Pos}
/-! ### list * int -/
theorem op_repL : OpR X (binaryOp .Mult) rRepL := by
  intro pins s σ H x y v u Q I rx ry h
  obtain ⟨l, k, xs, rfl, rfl, hl, h1, h2, hz, q⟩ := h
  cases rx
  obtain ⟨tk, rfl⟩ := ry
  obtain ⟨_, its, cap, rel, at_⟩ := hl.ok I.hok
  have len := rel.length
  have fit : its.toArray.size * k.toNat ≤ sizeLine := by rw [List.size_toArray, ← len]; exact hz
  have big : (sizeLine : Nat) ≤ (2 ^ 63 - 1) / 8 := by decide
  have c1 : ¬ (!Builtin.List.listFitsIndex k) = true := by rw [fitsIndex_both h1 h2]; exact Bool.false_ne_true
  have c2 : ¬ its.toArray.size * k.toNat > (2 ^ 63 - 1) / 8 := by omega
  have c3 : ¬ Builtin.List.listTooLong (its.toArray.size * k.toNat) = true := by rw [notLongL fit]; exact Bool.false_ne_true
  have whole : List.foldl (fun x1 x2 => x1 ++ x2) #[] (List.replicate (if its.toArray.isEmpty = true then 0 else k.toNat) its.toArray) = (List.replicate k.toNat its).flatten.toArray := by
    cases its with
    | nil => simp
    | cons w ws =>
      have z := foldl_rep (w :: ws) k.toNat []
      rw [List.nil_append] at z
      rw [if_neg (by simp)]
      exact z
  refine wpAny_binaryOp_repeat_ref (T := "list") (U := "int") (by decide) ⟨_, at_, rfl⟩ (fun s' => typeIs_int s' k tk) noFill_list_mul F.fills_int_mul F.slot_int_rmul repeat_list F.slot_int_index.lookup ?_
  refine call_meets F.slot_int_rmul (typeIs_int s k tk) F.entry_int_rmul (F.args_int_rmul_2 _ _) (int___rmul___int_list k tk l its.toArray cap) ⟨at_, rfl, ⟨_, at_, rfl⟩, ?_⟩
  refine call_meets F.slot_list_mul ⟨_, at_, rfl⟩ F.entry_list_mul (F.args_list_mul_2 _ _) (AutoListH.list___mul___list_int_3 l its.toArray cap k tk c1 c2 c3) ⟨at_, ?_⟩
  rw [whole]
  have nl : (List.replicate k.toNat xs).flatten.length ≤ sizeLine := by rw [PyProof.Rows.lm_len_rep_flat, Nat.mul_comm]; exact hz
  exact ⟨.ref _, _, I.lnew (t' := s.toks) (rel.rep k.toNat) nl, rfl, q _ I.fresh⟩
/-! ### in -/
def opIn (neg : Bool) (ra rb : R) (μ : Mem) : Rs R := match see ra μ, see rb μ with
  | some d, some (.list ds) => if SeqAt.shaped d = true ∧ PyData.canLayAll0 ds = true then .ok (.d (.bool (if neg = true then !ds.any fun z => PyData.eqv z d else ds.any fun z => PyData.eqv z d))) μ else .no
  | some d, some (.tuple ds) => if SeqAt.shaped d = true ∧ PyData.canLayAll0 ds = true then .ok (.d (.bool (if neg = true then !ds.any fun z => PyData.eqv z d else ds.any fun z => PyData.eqv z d))) μ else .no
  | _, _ => .no
def rInQ (K : PySem.W.Frag) (neg : Bool) : R2 := fun x y H Q => ∃ d ds, Dp K H x d ∧ (Dp K H y (.list ds) ∨ Dp K H y (.tuple ds)) ∧ SeqAt.shaped d = true ∧ PyData.canLayAll0 ds = true ∧ Q (.bl (if neg = true then !ds.any fun z => PyData.eqv z d else ds.any fun z => PyData.eqv z d)) H
theorem room_in {A : Around} {d : PyData} {ds : List PyData} (h : SeqAt.shaped d = true) {k : Nat} (hr : Room k A) : A.units + 1 + min (PyData.depthAll ds) d.depth < cLine := by
  have h1 := SeqAt.depth_of_shaped h
  have h2 := hr.un
  omega
theorem op_inQ {k : Nat} (hr : Room k X.A) : OpR X (compareOp .In) (rInQ X.K false) := by
  intro pins s σ H x y v u Q I rx ry h
  obtain ⟨d, ds, hd, he, sd, se, q⟩ := h
  obtain ⟨as, r1⟩ := Dp.reads I d x v hd rx
  rcases he with he | he
  · obtain ⟨bs, r2⟩ := Dp.reads I (.list ds) y u he ry
    exact SeqAt.in_list_reads r2 r1 se (SeqAt.canLay_of_shaped sd) (room_in sd hr) ⟨.bl _, H, I, rfl, q⟩
  · obtain ⟨bs, r2⟩ := Dp.reads I (.tuple ds) y u he ry
    exact SeqAt.in_tuple_reads r2 r1 se (SeqAt.canLay_of_shaped sd) (room_in sd hr) ⟨.bl _, H, I, rfl, q⟩
theorem op_notInQ {k : Nat} (hr : Room k X.A) : OpR X (compareOp .NotIn) (rInQ X.K true) := by
  intro pins s σ H x y v u Q I rx ry h
  obtain ⟨d, ds, hd, he, sd, se, q⟩ := h
  obtain ⟨as, r1⟩ := Dp.reads I d x v hd rx
  rcases he with he | he
  · obtain ⟨bs, r2⟩ := Dp.reads I (.list ds) y u he ry
    exact SeqAt.notIn_list_reads r2 r1 se (SeqAt.canLay_of_shaped sd) (room_in sd hr) ⟨.bl _, H, I, rfl, q⟩
  · obtain ⟨bs, r2⟩ := Dp.reads I (.tuple ds) y u he ry
    exact SeqAt.notIn_tuple_reads r2 r1 se (SeqAt.canLay_of_shaped sd) (room_in sd hr) ⟨.bl _, H, I, rfl, q⟩
theorem od_in_of {op : Value → Value → Sem Value} {neg : Bool} (h : OpR X op (rInQ X.K neg)) : OpD X T op (opIn neg) := by
  refine ⟨fun {μ H F as ra rb x y} m r1 r2 {σ Q Wx} p => ⟨_, h, ?_⟩⟩
  unfold opIn at p
  split at p
  · rename_i d ds h1 h2
    split at p
    · rename_i hc
      exact ⟨d, ds, (see_Dq m r1 h1).dp, .inl (see_Dq m r2 h2).dp, hc.1, hc.2, p _ H F as (Ext.refl _ _) m (.bl _)⟩
    · exact p.elim
  · rename_i d ds h1 h2
    split at p
    · rename_i hc
      exact ⟨d, ds, (see_Dq m r1 h1).dp, .inr (see_Dq m r2 h2).dp, hc.1, hc.2, p _ H F as (Ext.refl _ _) m (.bl _)⟩
    · exact p.elim
  · exact p.elim
theorem od_in {k : Nat} (hr : Room k X.A) : OpD X T (compareOp .In) (opIn false) := od_in_of (op_inQ hr)
theorem od_notIn {k : Nat} (hr : Room k X.A) : OpD X T (compareOp .NotIn) (opIn true) := od_in_of (op_notInQ hr)

/-! ### built-in functions -/
theorem relws1 {K : PySem.W.Frag} {F : Hp} {as : List Addr} {r : R} {vs : List V} (h : RelWs K F as [r] vs) : ∃ v, vs = [v] ∧ RelW K F as r v := by
  cases h with
  | cons a b => cases b; exact ⟨_, rfl, a⟩
theorem relws2' {K : PySem.W.Frag} {F : Hp} {as : List Addr} {r r' : R} {vs : List V} (h : RelWs K F as [r, r'] vs) : ∃ v v', vs = [v, v'] ∧ RelW K F as r v ∧ RelW K F as r' v' := by
  cases h with
  | cons a b =>
    cases b with
    | cons c d => cases d; exact ⟨_, _, rfl, a, c⟩
/-- a built-in function of one value -/
def one (f : R → Mem → Rs R) (rs : List R) (μ : Mem) : Rs R := match rs with
  | [r] => f r μ
  | _ => .no
theorem cd_one {f : Value} {o : R → Mem → Rs R} (h : ∀ {μ : Mem} {H F : Hp} {as : List Addr} {r : R} {x : V}, Mm X.K T μ H F as → RelW X.K F as r x → ∀ {σ : L2.St} {Q : VK} {Wx : WX}, PostE X.K X.mg T σ F as Q Wx (o r μ) → ∃ q, CallR X f q ∧ q [x] H Q) : CallD X T f (one o) := by
  refine ⟨fun {μ H F as rs xs} m rel {σ Q Wx} p => ?_⟩
  unfold one at p
  split at p
  · obtain ⟨v, rfl, r1⟩ := relws1 rel
    exact h m r1 p
  · exact p.elim
def fLen (r : R) (μ : Mem) : Rs R := match r with
  | .c n => match μ[n]? with
    | some (.lst ds) => .ok (.d (.int (ds.length : Nat))) μ
    | some (.frz ds) => .ok (.d (.int (ds.length : Nat))) μ
    | some (.dk kvs) => .ok (.d (.int (kvs.length : Nat))) μ
    | none => .no
  | .d (.list ds) => .ok (.d (.int (ds.length : Nat))) μ
  | .d (.tuple ds) => .ok (.d (.int (ds.length : Nat))) μ
  | .d (.str z) => if z.length ≤ sizeLine then .ok (.d (.int (z.length : Nat))) μ else .no
  | _ => .no
theorem cd_len : CallD X T (.builtin "len") (one fLen) := by
  refine cd_one fun {μ H F as r x} m rel {σ Q Wx} p => ?_
  cases r with
  | c n =>
    obtain ⟨a, ha, rfl⟩ := rel
    unfold fLen at p
    cases hc : μ[n]? with
    | none => simp only [hc] at p; exact p.elim
    | some c =>
      have q := m.cell n c a hc ha
      cases c with
      | lst ds => simp only [hc] at p; obtain ⟨_, vs, h1, h2⟩ := q; exact ⟨_, call_len_seq, a, vs, rfl, .inl (.inl (.inl h1)), by rw [h2.length]; exact p _ H F as (Ext.refl _ _) m (.int _)⟩
      | frz ds => simp only [hc] at p; obtain ⟨vs, h1, h2⟩ := q; exact ⟨_, call_len_seq, a, vs, rfl, .inl (.inl (.inl (m.same _ _ h1))), by rw [h2.length]; exact p _ H F as (Ext.refl _ _) m (.int _)⟩
      | dk kvs =>
        simp only [hc] at p
        obtain ⟨_, kv, h1, h2, h3⟩ := q
        have hl : kv.length = kvs.length := by have := congrArg List.length h2; simpa using this
        exact ⟨_, call_lenD, a, kv, rfl, h1, by rw [hl]; exact p _ H F as (Ext.refl _ _) m (.int _)⟩
  | d d0 =>
    cases d0 with
    | list ds =>
      obtain ⟨a, vs, rfl, hL, hd⟩ := see_list m rel (rfl : see (.d (.list ds)) μ = some (.list ds))
      exact ⟨_, call_len_seq, a, vs, rfl, .inl (.inl hL), by rw [hd.length]; exact p _ H F as (Ext.refl _ _) m (.int _)⟩
    | tuple ds =>
      obtain ⟨a, vs, rfl, hL, _, hd⟩ := see_tup m rel (rfl : see (.d (.tuple ds)) μ = some (.tuple ds))
      exact ⟨_, call_len_seq, a, vs, rfl, .inr hL, by rw [hd.length]; exact p _ H F as (Ext.refl _ _) m (.int _)⟩
    | str z =>
      cases rel
      unfold fLen at p
      simp only at p
      split at p
      · rename_i hz; exact ⟨_, call_len_str, z, rfl, hz, p _ H F as (Ext.refl _ _) m (.int _)⟩
      · exact p.elim
    | none => exact p.elim
    | bool b => exact p.elim
    | int b => exact p.elim
    | dict b => exact p.elim
  | fl ds => exact p.elim
  | fk ds => exact p.elim
  | o b => exact p.elim
def fInt (r : R) (μ : Mem) : Rs R := match r with
  | .d (.int i) => .ok (.d (.int i)) μ
  | .d (.bool b) => .ok (.d (.int (if b then 1 else 0))) μ
  | .d (.str a) => match PySem.intText? a with
    | some n => if a.length ≤ 640 then .ok (.d (.int n)) μ else .no
    | none => .no
  | _ => .no
theorem cd_int : CallD X T (.type "int") (one fInt) := by
  refine cd_one fun {μ H F as r x} m rel {σ Q Wx} p => ?_
  cases r with
  | d d0 =>
    cases d0 with
    | int i => cases rel; exact ⟨_, call_int1, .inl ⟨i, rfl, p _ H F as (Ext.refl _ _) m (.int _)⟩⟩
    | bool i => cases rel; exact ⟨_, call_int1, .inr ⟨i, rfl, p _ H F as (Ext.refl _ _) m (.int _)⟩⟩
    | str z =>
      cases rel
      unfold fInt at p
      simp only at p
      split at p
      · rename_i n hn
        split at p
        · rename_i hz; exact ⟨_, call_int_str, z, n, rfl, hn, hz, p _ H F as (Ext.refl _ _) m (.int _)⟩
        · exact p.elim
      · exact p.elim
    | none => exact p.elim
    | list b => exact p.elim
    | tuple b => exact p.elim
    | dict b => exact p.elim
  | c n => exact p.elim
  | fl ds => exact p.elim
  | fk ds => exact p.elim
  | o b => exact p.elim
def fAbs (r : R) (μ : Mem) : Rs R := match r with
  | .d (.int i) => .ok (.d (.int (if i < 0 then -i else i))) μ
  | _ => .no
theorem cd_abs : CallD X T (.builtin "abs") (one fAbs) := by
  refine cd_one fun {μ H F as r x} m rel {σ Q Wx} p => ?_
  cases r with
  | d d0 =>
    cases d0 with
    | int i => cases rel; exact ⟨_, call_abs, i, rfl, p _ H F as (Ext.refl _ _) m (.int _)⟩
    | _ => exact p.elim
  | _ => exact p.elim
def fTup (r : R) (μ : Mem) : Rs R := match see r μ with
  | some (.list ds) => .ok (.d (.tuple ds)) μ
  | some (.tuple ds) => .ok (.d (.tuple ds)) μ
  | _ => .no
theorem cd_tuple : CallD X T (.type "tuple") (one fTup) := by
  refine cd_one fun {μ H F as r x} m rel {σ Q Wx} p => ?_
  unfold fTup at p
  split at p
  · rename_i ds hds
    obtain ⟨a, vs, rfl, hL, hd⟩ := see_list m rel hds
    refine ⟨_, call_tuple_of, a, vs, rfl, .inl ⟨.inl hL, fun q hq => ?_⟩⟩
    have hF := m.freeF hq
    exact p _ _ _ as (Ext.new hF) ((m.alloc hq).freeze hF upd_same (m.notin hq) (fun ps z => by cases z)) (.tup (.inl (.inl upd_same)) (DqAll_mono (same_new hF) hd))
  · rename_i ds hds
    obtain ⟨a, vs, rfl, hL, hF, hd⟩ := see_tup m rel hds
    exact ⟨_, call_tuple_of, a, vs, rfl, .inr ⟨hL, p _ H F as (Ext.refl _ _) m (.tup hF hd)⟩⟩
  · exact p.elim
def fList (r : R) (μ : Mem) : Rs R := match see r μ with
  | some (.list ds) => .ok (.fl ds) μ
  | some (.tuple ds) => .ok (.fl ds) μ
  | _ => .no
theorem cd_list : CallD X T (.type "list") (one fList) := by
  refine cd_one fun {μ H F as r x} m rel {σ Q Wx} p => ?_
  unfold fList at p
  split at p
  · rename_i ds hds
    obtain ⟨a, vs, rfl, hL, hd⟩ := see_list m rel hds
    exact ⟨_, call_list_of, a, vs, rfl, .inl (.inl hL), fun q hq => p _ _ F as (Ext.refl _ _) (m.alloc hq) ⟨q, vs, rfl, m.notin hq, m.freeF hq, upd_same, hd⟩⟩
  · rename_i ds hds
    obtain ⟨a, vs, rfl, hL, hF, hd⟩ := see_tup m rel hds
    exact ⟨_, call_list_of, a, vs, rfl, .inr hL, fun q hq => p _ _ F as (Ext.refl _ _) (m.alloc hq) ⟨q, vs, rfl, m.notin hq, m.freeF hq, upd_same, hd⟩⟩
  · exact p.elim
/-- all are truth values, ints, texts -/
def boolsOf : List D → Option (List Bool)
  | [] => some []
  | .bool b :: ds => (boolsOf ds).map (b :: ·)
  | _ => none
def intsOf : List D → Option (List Int)
  | [] => some []
  | .int b :: ds => (intsOf ds).map (b :: ·)
  | _ => none
def strsOf : List D → Option (List Str)
  | [] => some []
  | .str b :: ds => (strsOf ds).map (b :: ·)
  | _ => none
theorem boolsOf_eq : ∀ {ds : List D} {bs : List Bool}, boolsOf ds = some bs → ds = bs.map .bool
  | [], _, h => by cases h; rfl
  | d :: ds, bs, h => by
    cases d with
    | bool b =>
      cases e : boolsOf ds with
      | none => simp [boolsOf, e] at h
      | some cs => simp [boolsOf, e] at h; subst h; rw [boolsOf_eq e]; rfl
    | _ => cases h
theorem intsOf_eq : ∀ {ds : List D} {bs : List Int}, intsOf ds = some bs → ds = bs.map .int
  | [], _, h => by cases h; rfl
  | d :: ds, bs, h => by
    cases d with
    | int b =>
      cases e : intsOf ds with
      | none => simp [intsOf, e] at h
      | some cs => simp [intsOf, e] at h; subst h; rw [intsOf_eq e]; rfl
    | _ => cases h
theorem strsOf_eq : ∀ {ds : List D} {bs : List Str}, strsOf ds = some bs → ds = bs.map .str
  | [], _, h => by cases h; rfl
  | d :: ds, bs, h => by
    cases d with
    | str b =>
      cases e : strsOf ds with
      | none => simp [strsOf, e] at h
      | some cs => simp [strsOf, e] at h; subst h; rw [strsOf_eq e]; rfl
    | _ => cases h
theorem boolsOf_map : ∀ bs : List Bool, boolsOf (bs.map .bool) = some bs
  | [] => rfl
  | b :: bs => by simp [boolsOf, boolsOf_map bs]
theorem intsOf_map : ∀ bs : List Int, intsOf (bs.map .int) = some bs
  | [] => rfl
  | b :: bs => by simp [intsOf, intsOf_map bs]
theorem strsOf_map : ∀ bs : List Str, strsOf (bs.map .str) = some bs
  | [] => rfl
  | b :: bs => by simp [strsOf, strsOf_map bs]
def fBools (f : List Bool → Bool) (r : R) (μ : Mem) : Rs R := match see r μ with
  | some (.list ds) => match boolsOf ds with
    | some bs => .ok (.d (.bool (f bs))) μ
    | none => .no
  | _ => .no
theorem cd_all (hc : X.calm = true := by rfl) : CallD X T (.builtin "all") (one (fBools fun bs => bs.all id)) := by
  refine cd_one fun {μ H F as r x} m rel {σ Q Wx} p => ?_
  unfold fBools at p
  split at p
  · rename_i ds hds
    obtain ⟨a, vs, rfl, hL, hd⟩ := see_list m rel hds
    split at p
    · rename_i bs hb
      have := boolsOf_eq hb
      subst this
      have := hd.of_bools
      subst this
      exact ⟨_, cr_all hc, a, bs, rfl, .inl hL, p _ H F as (Ext.refl _ _) m (.bl _)⟩
    · exact p.elim
  · exact p.elim
theorem cd_any (hc : X.calm = true := by rfl) : CallD X T (.builtin "any") (one (fBools fun bs => bs.any id)) := by
  refine cd_one fun {μ H F as r x} m rel {σ Q Wx} p => ?_
  unfold fBools at p
  split at p
  · rename_i ds hds
    obtain ⟨a, vs, rfl, hL, hd⟩ := see_list m rel hds
    split at p
    · rename_i bs hb
      have := boolsOf_eq hb
      subst this
      have := hd.of_bools
      subst this
      exact ⟨_, cr_any hc, a, bs, rfl, .inl hL, p _ H F as (Ext.refl _ _) m (.bl _)⟩
    · exact p.elim
  · exact p.elim
def fSum (r : R) (μ : Mem) : Rs R := match see r μ with
  | some (.list ds) => match intsOf ds with
    | some ns => .ok (.d (.int ns.sum)) μ
    | none => .no
  | _ => .no
theorem cd_sum (hc : X.calm = true := by rfl) : CallD X T (.builtin "sum") (one fSum) := by
  refine cd_one fun {μ H F as r x} m rel {σ Q Wx} p => ?_
  unfold fSum at p
  split at p
  · rename_i ds hds
    obtain ⟨a, vs, rfl, hL, hd⟩ := see_list m rel hds
    split at p
    · rename_i bs hb
      have := intsOf_eq hb
      subst this
      have := hd.of_ints
      subst this
      exact ⟨_, cr_sum hc, a, bs, rfl, .inl hL, p _ H F as (Ext.refl _ _) m (.int _)⟩
    · exact p.elim
  · exact p.elim
/-- the greatest, the least of ints -/
def fBest (f : Int → Int → Int) (r : R) (μ : Mem) : Rs R := match see r μ with
  | some (.list ds) => match intsOf ds with
    | some (n :: ns) => .ok (.d (.int (ns.foldl f n))) μ
    | _ => .no
  | some (.tuple ds) => match intsOf ds with
    | some (n :: ns) => .ok (.d (.int (ns.foldl f n))) μ
    | _ => .no
  | _ => .no
/-- max, min of a list or a tuple of ints, by values -/
def rBest (K : PySem.W.Frag) (f : Int → Int → Int) : List V → Hp → VK → Prop := fun xs H Q => ∃ (a : Addr) (n : Int) (ns : List Int), xs = [.ref a] ∧ (SqL K H a ((n :: ns).map .int) ∨ SqT K H a ((n :: ns).map .int)) ∧ Q (.int (ns.foldl f n)) H
theorem reads_ints {h : Heap} : ∀ {us : List Value} {ns : List Int}, Vals (ns.map V.int) us → ∃ as, ReadsAll h us (ns.map PyData.int) as
  | [], [], _ => ⟨_, .nil⟩
  | u :: us, n :: ns, .cons r t => by
    obtain ⟨k, rfl⟩ := r
    obtain ⟨as, q⟩ := reads_ints (h := h) t
    exact ⟨_, .cons (.int _ _) q⟩
theorem alike_ints (ns : List Int) : PySem.W.AlikeAll (ns.map PyData.int) := by
  refine ⟨fun x hx y hy => ?_, fun x hx => ?_⟩
  · obtain ⟨i, _, rfl⟩ := List.mem_map.mp hx
    obtain ⟨j, _, rfl⟩ := List.mem_map.mp hy
    rfl
  · obtain ⟨i, _, rfl⟩ := List.mem_map.mp hx
    intro z; cases z
theorem depth_ints : ∀ ns : List Int, PyData.depthAll (ns.map PyData.int) = 0
  | [] => rfl
  | n :: ns => by rw [List.map_cons]; show max 0 (PyData.depthAll (ns.map PyData.int)) = 0; rw [depth_ints ns]; rfl
theorem reads_int_inv {h : Heap} {v : Value} {i : Int} {as : List Addr} (r : Reads h v (.int i) as) : ∃ t, v = .int i t := by
  cases r
  exact ⟨_, rfl⟩
theorem call_maxQ {k : Nat} (hr : Room k X.A) (hc : X.calm = true) : CallR X (.builtin "max") (rBest X.K max) := by
  intro pins s σ H vs us Q I r h
  obtain ⟨a, n, ns, rfl, hs, q⟩ := h
  rw [Vals.ref1 r]
  have hu : X.A.units + 1 + PyData.depthAll ((n :: ns).map PyData.int) < cLine := by
    rw [depth_ints]
    have := hr.un
    omega
  have fin : ∀ (v : Value) (h' : Heap) (tk : Nat) (bs : List Addr), Reads h' v (PySem.W.maxD (.int n) (ns.map PyData.int)) bs → (∀ b o, s.heap.get? b = some o → h'.get? b = some o) → EP X pins σ Q v { s with heap := h', toks := tk } := fun v h' tk bs hv hk => by
    rw [PySem.W.maxD_ints] at hv
    obtain ⟨t, rfl⟩ := reads_int_inv hv
    exact ⟨.int _, H, I.kept hk, ⟨_, rfl⟩, q⟩
  rcases hs with hs | hs
  · obtain ⟨its, rv, hl, _⟩ := I.list hs
    obtain ⟨as, ra⟩ := reads_ints (h := s.heap) rv
    exact PySem.W.max_list_data (I.ok.hd hc) hl.isList (by simpa using ra) (alike_ints (n :: ns)) hu fun i v h' tk bs _ hv hk => fin v h' tk bs hv hk
  · obtain ⟨its, rv, hl, _⟩ := I.tuple hs
    obtain ⟨as, ra⟩ := reads_ints (h := s.heap) rv
    exact PySem.W.max_tuple_data (I.ok.hd hc) (show s.heap.IsTuple a its.toArray from hl) (by simpa using ra) (alike_ints (n :: ns)) hu fun i v h' tk bs _ hv hk => fin v h' tk bs hv hk
theorem call_minQ {k : Nat} (hr : Room k X.A) (hc : X.calm = true) : CallR X (.builtin "min") (rBest X.K min) := by
  intro pins s σ H vs us Q I r h
  obtain ⟨a, n, ns, rfl, hs, q⟩ := h
  rw [Vals.ref1 r]
  have hu : X.A.units + 1 + PyData.depthAll ((n :: ns).map PyData.int) < cLine := by
    rw [depth_ints]
    have := hr.un
    omega
  have fin : ∀ (v : Value) (h' : Heap) (tk : Nat) (bs : List Addr), Reads h' v (PySem.W.minD (.int n) (ns.map PyData.int)) bs → (∀ b o, s.heap.get? b = some o → h'.get? b = some o) → EP X pins σ Q v { s with heap := h', toks := tk } := fun v h' tk bs hv hk => by
    rw [PySem.W.minD_ints] at hv
    obtain ⟨t, rfl⟩ := reads_int_inv hv
    exact ⟨.int _, H, I.kept hk, ⟨_, rfl⟩, q⟩
  rcases hs with hs | hs
  · obtain ⟨its, rv, hl, _⟩ := I.list hs
    obtain ⟨as, ra⟩ := reads_ints (h := s.heap) rv
    exact PySem.W.min_list_data (I.ok.hd hc) hl.isList (by simpa using ra) (alike_ints (n :: ns)) hu fun i v h' tk bs _ hv hk => fin v h' tk bs hv hk
  · obtain ⟨its, rv, hl, _⟩ := I.tuple hs
    obtain ⟨as, ra⟩ := reads_ints (h := s.heap) rv
    exact PySem.W.min_tuple_data (I.ok.hd hc) (show s.heap.IsTuple a its.toArray from hl) (by simpa using ra) (alike_ints (n :: ns)) hu fun i v h' tk bs _ hv hk => fin v h' tk bs hv hk
theorem cd_best {f : Int → Int → Int} {b : Value} (h : CallR X b (rBest X.K f)) : CallD X T b (one (fBest f)) := by
  refine cd_one fun {μ H F as r x} m rel {σ Q Wx} p => ⟨_, h, ?_⟩
  unfold fBest at p
  split at p
  · rename_i ds hds
    obtain ⟨a, vs, rfl, hL, hd⟩ := see_list m rel hds
    split at p
    · rename_i n ns hb
      have := intsOf_eq hb
      subst this
      have := hd.of_ints
      subst this
      exact ⟨a, n, ns, rfl, .inl (.inl hL), p _ H F as (Ext.refl _ _) m (.int _)⟩
    · exact p.elim
  · rename_i ds hds
    obtain ⟨a, vs, rfl, hL, _, hd⟩ := see_tup m rel hds
    split at p
    · rename_i n ns hb
      have := intsOf_eq hb
      subst this
      have := hd.of_ints
      subst this
      exact ⟨a, n, ns, rfl, .inr hL, p _ H F as (Ext.refl _ _) m (.int _)⟩
    · exact p.elim
  · exact p.elim
theorem cd_max1 {k : Nat} (hr : Room k X.A) (hc : X.calm = true := by rfl) : CallD X T (.builtin "max") (one (fBest max)) := cd_best (call_maxQ hr hc)
theorem cd_min1 {k : Nat} (hr : Room k X.A) (hc : X.calm = true := by rfl) : CallD X T (.builtin "min") (one (fBest min)) := cd_best (call_minQ hr hc)
end
end Em
set_option maxRecDepth 100000
namespace Em
open PySem PySem.Spec PyProof.Rows L2
section
variable {X : Cx} {T : Tb} {pos : Pos}
/-! ### isinstance of a built-in class -/
def tyName (r : R) (μ : Mem) : Option String := match r with
  | .d .none => some "NoneType"
  | .d (.bool _) => some "bool"
  | .d (.int _) => some "int"
  | .d (.str _) => some "str"
  | .d (.list _) => some "list"
  | .d (.tuple _) => some "tuple"
  | .c n => match μ[n]? with
    | some (.lst _) => some "list"
    | some (.frz _) => some "list"
    | some (.dk _) => some "dict"
    | none => none
  | _ => none
def cIsi (Ty : String) (c : EC) : EC := fun ρ μ => (c ρ μ).bind fun r μ1 => match tyName r μ1 with
  | some t => match kitB t Ty with
    | some b => .ok (.d (.bool b)) μ1
    | none => .no
  | none => .no
theorem tyName_ok {μ : Mem} {H F : Hp} {as : List Addr} {r : R} {x : V} {t : String} (m : Mm X.K T μ H F as) (h : RelW X.K F as r x) (e : tyName r μ = some t) : TyX X.K H x (.type t) := by
  cases r with
  | d d0 =>
    cases d0 with
    | none => cases h; cases e; exact .base .non
    | bool b => cases h; cases e; exact .base (.bl b)
    | int b => cases h; cases e; exact .base (.int b)
    | str b => cases h; cases e; exact .base (.str b)
    | list ds =>
      cases h with
      | lst h1 h2 =>
        cases e
        rcases Rd_mono m.same h1 with z | ⟨o, z⟩
        · exact .base (.lst z)
        · exact .base (.frz z)
    | tuple ds =>
      cases h with
      | tup h1 h2 =>
        cases e
        rcases same_tup m.same h1 with (z | ⟨o, z⟩) | ⟨o, its, n, z, hc, _⟩
        · exact .base (.tup z)
        · exact .fTuple z
        · exact .kTuple z hc
    | dict kvs => cases e
  | c n =>
    obtain ⟨a, ha, rfl⟩ := h
    unfold tyName at e
    cases hc : μ[n]? with
    | none => simp only [hc] at e; cases e
    | some c =>
      have q := m.cell n c a hc ha
      cases c with
      | lst ds => simp only [hc] at e; cases e; obtain ⟨_, vs, h1, _⟩ := q; exact .base (.lst h1)
      | frz ds => simp only [hc] at e; cases e; obtain ⟨vs, h1, _⟩ := q; exact .base (.lst (m.same _ _ h1))
      | dk kvs => simp only [hc] at e; cases e; obtain ⟨_, kv, h1, _⟩ := q; exact .base (.dK h1)
  | fl ds => exact h.elim
  | fk ds => exact h.elim
  | o b => cases e
theorem de_isi {a : Expr} {c : EC} {y : Str} {Ty : String} {p p2 : Pos} (h : DW X T a c) (hm : X.mg "isinstance" = none) (hmy : X.mg y = none) (hvy : bootBuiltins y = some (.type Ty)) (hg : Gl X "isinstance" := by rfl) (hgy : Gl X y := by rfl) (hny : y ≠ "__name__" := by decide) (hdy : (y == ("__debug__" : Str)) = false := by decide)
    (hs1 : starEach [a, .Name y p2] X.env = (false, eval a X.env) :: starEach [.Name y p2] X.env := by rfl) (hs2 : starEach [.Name y p2] X.env = (false, eval (.Name y p2) X.env) :: starEach [] X.env := by rfl) (hpl : (backTo pos (starEach [.Name y p2] X.env)).any (·.1) = false := by rfl) :
    DE X T (.Call (.Name "isinstance" p) [a, .Name y p2] [] pos) (cIsi Ty c) := by
  refine ⟨fun {ρ μ σ H F as} m en {Q Wx} tk pp => ve_of (pe_callB (allC (f := .builtin "isinstance")) hg hm (by decide +kernel) (pa_cons pe_self (pa_cons (pe_bltn (v := .ty Ty) hgy hmy hvy rfl hny hdy) pa_nil hs2) hs1) (by decide) (by decide) hs1 hpl) ?_⟩
  refine h.run m en tk (w_bind (P := PostE X.K X.mg T σ F as Q Wx) (fun _ _ p => p) (fun p => p) pp fun r μ1 p1 v H1 F1 as1 e1 m1 r1 => ?_)
  split at p1
  · rename_i t ht
    split at p1
    · rename_i b hb
      exact ⟨_, call_isi, v, .ty Ty, .type t, .type Ty, b, rfl, .ty Ty, tyName_ok m1 r1 ht, kit_ty hb, p1 _ H1 F1 as1 e1 m1 (.bl b)⟩
    · exact p1.elim
  · exact p1.elim

/-! ### methods of lists -/
def mAppend (r : R) (rs : List R) (μ : Mem) : Rs R := match r, rs with
  | .c n, [.d x] => match μ[n]? with
    | some (.lst ds) => if ds.length < sizeLine then .ok (.d .none) (μ.set n (.lst (ds ++ [x]))) else .no
    | _ => .no
  | _, _ => .no
theorem md_append : MtD X T "list" "list.append" mAppend := by
  refine ⟨fun {μ H F as r rs x xs} m rel rels {σ Q Wx} p => ?_⟩
  unfold mAppend at p
  split at p
  · rename_i n y
    obtain ⟨v, rfl, r1⟩ := relws1 rels
    obtain ⟨a, ha, rfl⟩ := rel
    split at p
    · rename_i ds hc
      obtain ⟨hF, vs, h1, h2⟩ := m.cell n _ a hc ha
      split at p
      · rename_i hl
        exact ⟨_, mt_append, a, vs, v, rfl, rfl, h1, by rw [h2.length]; exact hl, p _ _ F as (Ext.refl _ _) (m.write (c' := .lst (ds ++ [y])) ha hF h1 (fun ps z => by cases z) (fun φ z => by cases z) ⟨hF, _, upd_same, h2.append (.cons r1 .nil)⟩) .non⟩
      · exact p.elim
    · exact p.elim
  · exact p.elim
/-- extend by a list, wherever it stands -/
def rExtendR : V → List V → Hp → VK → Prop := fun x vs H Q => ∃ l b xs zs, x = .ref l ∧ vs = [.ref b] ∧ H l = some (.lst xs) ∧ Rd H b (.lst zs) ∧ xs.length + zs.length ≤ sizeLine ∧ Q .non (upd H l (.lst (xs ++ zs)))
theorem mt_extendR : MtR X "list.extend" rExtendR := by
  intro pins s σ H x vs v us Q I rx rv h
  obtain ⟨l, b, xs, zs, rfl, rfl, hH, hB, hz, q⟩ := h
  rcases hB with hB | ⟨o, hB⟩
  · exact mt_extend pins s σ H _ _ v us Q I rx rv ⟨l, b, xs, zs, rfl, rfl, hH, hB, hz, q⟩
  · cases rx
    obtain ⟨u, rfl, ru⟩ := rv.one
    cases ru
    obtain ⟨_, its, n, r, hl, e⟩ := I.lstM hH
    obtain ⟨_, its2, n2, r2, e2⟩ := Rd.ok (.inr ⟨o, hB⟩) I.hok
    have l2 := r2.length
    have fit : its.toArray.size + its2.toArray.size ≤ sizeLine := by rw [List.size_toArray, List.size_toArray]; omega
    have c1 : ¬ (!its.toArray.isEmpty && Builtin.List.listTooLong (its.toArray.size + its2.toArray.size)) = true := by
      rw [notLongL fit, Bool.and_false]; exact Bool.false_ne_true
    refine call_meets F.slot_list_extend ⟨_, e, rfl⟩ F.entry_list_extend (F.args_list_extend_2 _ _) (AutoSeq1.list_extend_list_list_0 l its.toArray n b its2.toArray n2 c1 (by rw [List.size_toArray]; omega) (by omega)) ⟨e, e2, ?_⟩
    exact ⟨.non, _, I.lset (its' := its ++ its2) hH e (by simp) (r.append r2) (by rw [List.length_append]; omega), rfl, q⟩
def mExtend (r : R) (rs : List R) (μ : Mem) : Rs R := match r, rs with
  | .c n, [y] => match μ[n]?, see y μ with
    | some (.lst ds), some (.list es) => if ds.length + es.length ≤ sizeLine then .ok (.d .none) (μ.set n (.lst (ds ++ es))) else .no
    | _, _ => .no
  | _, _ => .no
theorem md_extend : MtD X T "list" "list.extend" mExtend := by
  refine ⟨fun {μ H F as r rs x xs} m rel rels {σ Q Wx} p => ?_⟩
  unfold mExtend at p
  split at p
  · rename_i n y
    obtain ⟨v, rfl, r1⟩ := relws1 rels
    obtain ⟨a, ha, rfl⟩ := rel
    split at p
    · rename_i ds es hc he
      obtain ⟨hF, vs, h1, h2⟩ := m.cell n _ a hc ha
      obtain ⟨b, ws, rfl, q1, q2⟩ := see_list m r1 he
      split at p
      · rename_i hl
        exact ⟨_, mt_extendR, a, b, vs, ws, rfl, rfl, h1, q1, by rw [h2.length, q2.length]; exact hl, p _ _ F as (Ext.refl _ _) (m.write (c' := .lst (ds ++ es)) ha hF h1 (fun ps z => by cases z) (fun φ z => by cases z) ⟨hF, _, upd_same, h2.append q2⟩) .non⟩
      · exact p.elim
    · exact p.elim
  · exact p.elim
/-! ### methods of texts -/
def mJoin (r : R) (rs : List R) (μ : Mem) : Rs R := match r, rs with
  | .d (.str a), [y] => match see y μ with
    | some (.list ds) => match strsOf ds with
      | some ys => if (ys.map (·.length)).sum + ys.length * a.length ≤ 16777216 then .ok (.d (.str (Txt.join a ys))) μ else .no
      | none => .no
    | some (.tuple ds) => match strsOf ds with
      | some ys => if (ys.map (·.length)).sum + ys.length * a.length ≤ 16777216 then .ok (.d (.str (Txt.join a ys))) μ else .no
      | none => .no
    | _ => .no
  | _, _ => .no
theorem md_join : MtD X T "str" "str.join" mJoin := by
  refine ⟨fun {μ H F as r rs x xs} m rel rels {σ Q Wx} p => ?_⟩
  unfold mJoin at p
  split at p
  · rename_i a y
    obtain ⟨v, rfl, r1⟩ := relws1 rels
    cases rel
    split at p
    · rename_i ds hds
      obtain ⟨b, ws, rfl, q1, q2⟩ := see_list m r1 hds
      split at p
      · rename_i ys hy
        have := strsOf_eq hy
        subst this
        have := q2.of_strs
        subst this
        split at p
        · rename_i hl
          exact ⟨_, mt_join, a, b, ys, rfl, rfl, .inl (.inl q1), hl, p _ H F as (Ext.refl _ _) m (.str _)⟩
        · exact p.elim
      · exact p.elim
    · rename_i ds hds
      obtain ⟨b, ws, rfl, q1, _, q2⟩ := see_tup m r1 hds
      split at p
      · rename_i ys hy
        have := strsOf_eq hy
        subst this
        have := q2.of_strs
        subst this
        split at p
        · rename_i hl
          exact ⟨_, mt_join, a, b, ys, rfl, rfl, .inr q1, hl, p _ H F as (Ext.refl _ _) m (.str _)⟩
        · exact p.elim
      · exact p.elim
    · exact p.elim
  · exact p.elim
def mSplit (r : R) (rs : List R) (μ : Mem) : Rs R := match r, rs with
  | .d (.str a), [.d (.str b)] => if (b.length == 0) = false ∧ a.length + 2 ≤ sizeLine then .ok (.fl ((Txt.split a b).map .str)) μ else .no
  | _, _ => .no
theorem md_split : MtD X T "str" "str.split" mSplit := by
  refine ⟨fun {μ H F as r rs x xs} m rel rels {σ Q Wx} p => ?_⟩
  unfold mSplit at p
  split at p
  · rename_i a b
    obtain ⟨v, rfl, r1⟩ := relws1 rels
    cases rel
    cases r1
    split at p
    · rename_i hc
      exact ⟨_, mt_split, a, b, rfl, rfl, hc.1, hc.2, fun q hq => p _ _ F as (Ext.refl _ _) (m.alloc hq) ⟨q, _, rfl, m.notin hq, m.freeF hq, upd_same, DqAll.strs _⟩⟩
    · exact p.elim
  · exact p.elim

/-! ### a store to an item -/
def opStore (ro ri : R) (x : D) (μ : Mem) : Option Mem := match ro with
  | .c n => match μ[n]?, ri with
    | some (.lst ds), .d (.int i) => match ixN ds.length i with
      | some k => some (μ.set n (.lst (ds.set k x)))
      | none => none
    | _, _ => none
  | _ => none
def sStore (co ci ce : EC) : SC := fun ρ μ => (cD ce ρ μ).thenS ρ fun rx μ1 => (co ρ μ1).thenS ρ fun ro μ2 => (ci ρ μ2).thenS ρ fun ri μ3 => match rx with
  | .d x => match opStore ro ri x μ3 with
    | some μ4 => .nx ρ μ4
    | none => .no
  | _ => .no
def rAllSet (X : Cx) : TSet := fun o i v H Q => ∃ t, PSet X t ∧ t o i v H Q
theorem allSet : PSet X (rAllSet X) := fun pins s σ H o i v ov iv u Q I r1 r2 r3 ⟨t, h, q⟩ => h pins s σ H o i v ov iv u Q I r1 r2 r3 q
theorem ds_store {o i e : Expr} {co ci ce : EC} {p2 : Pos} (ho : DW X T o co) (hi : DW X T i ci) (he : DE X T e ce) (hs : swapsWithSole [.Subscript o i p2] e pos.line X.env = pure false := by rfl) (hw : swappedStores [.Subscript o i p2] e X.env = pure none := by rfl)
    (h1 : (assignEach [.Subscript o i p2] X.env).map (·.2) = [assign (.Subscript o i p2) X.env] := by rfl)
    (ha : ∀ v, assign (.Subscript o i p2) X.env v = (do
      let ov ← holding [v] (eval o X.env)
      let iv ← holding [v, ov] (eval i X.env)
      standAt p2
      holding [v, ov, iv] (setItem ov iv v)
      release [v, ov, iv] []) := by intro _; rfl) : DS X T (.Assign [.Subscript o i p2] e pos) (sStore co ci ce) := by
  refine ⟨fun {ρ μ σ H F as} m en {D Wx} tk p => vs_of (ps_asg pe_self (pg_sub pe_self pe_self allSet ha) hs hw h1) ?_⟩
  refine he.data.run m en tk (w_then en p fun rx μ1 p1 v H1 F1 as1 e1 m1 r1 => ?_)
  have en1 := en.mono e1
  refine ho.run m1 en1 tk (w_then en1 (p1.ext e1) fun ro μ2 p2 ov H2 F2 as2 e2 m2 r2 => ?_)
  have en2 := en1.mono e2
  refine hi.run m2 en2 tk (w_then en2 (p2.ext e2) fun ri μ3 p3 iv H3 F3 as3 e3 m3 r3 => ?_)
  have en3 := en2.mono e3
  have rx3 := r1.mono (e2.trans e3)
  have ro3 := r2.mono e3
  have p4 := p3.ext e3
  cases rx with
  | d x =>
    simp only at p4
    cases hst : opStore ro ri x μ3 with
    | none => rw [hst] at p4; exact p4.elim
    | some μ4 =>
      rw [hst] at p4
      unfold opStore at hst
      split at hst
      · rename_i n
        obtain ⟨a, haa, rfl⟩ := ro3
        split at hst
        · rename_i ds i hc
          split at hst
          · rename_i k hk
            cases hst
            cases r3
            obtain ⟨hF, vs, h1, h2⟩ := m3.cell n _ a hc haa
            exact ⟨_, set_list, a, vs, i, k, rfl, rfl, h1, by rw [h2.length]; exact hk, p4 σ _ F3 as3 (Ext.refl _ _) (m3.write (c' := .lst (ds.set k x)) haa hF h1 (fun ps z => by cases z) (fun φ z => by cases z) ⟨hF, _, upd_same, h2.set rx3 k⟩) en3⟩
          · cases hst
        · cases hst
      · cases hst
  | c n => exact p4.elim
  | fl ds => exact p4.elim
  | fk ds => exact p4.elim
  | o b => exact p4.elim

/-! ### raise -/
/-- an own exception class without an __init__ of its own -/
structure Exc0 (K : PySem.W.Frag) (mg : Str → Option Value) (x : Str) : Prop where
  ex : ∃ C : Addr, mg x = some (.ref C) ∧ PySem.W.excIn K C [.type "ValueError", .type "Exception", .type "BaseException", .type "object"] "ValueError.__new__" = true ∧ PySem.W.keepIn K (.ref C) = true ∧
    PySem.W.subIn K (.ref C) (.type "BaseException") = some true ∧ PySem.W.typeIn K (.ref C) = some (.type "type")
theorem pmk_own0 {C : Addr} {bmB : List Value} {B newId initId : String} {x : Str} {p : Pos} (F : ExcBaseFacts B newId initId bmB) (q : PySem.W.excIn X.K C bmB newId = true) (gC : X.mg x = some (.ref C))
    (kC : PySem.W.keepIn X.K (.ref C) = true) (r : Raises X (.ref C)) (hg : Gl X x) (hdb : (x == ("__debug__" : Str)) = false := by decide) : PMk X (.Call (.Name x p) [] [] pos) (fun _ H Q => Q (.ref C) none H) := by
  intro pins s σ H Q I h
  refine wpAny_Call_Name_kw (ld_glob I hg gC ?_ hdb)
  refine PySem.W.callWith_K0 I.kIn kC ?_
  obtain ⟨bm, N, nm, qn, bs, hdct, sn, sub, ab, col, dd, k0, k1, k2, k3, k5, mN, hC, hN, hni, TT⟩ := exc_obj I.kIn q
  exact wpAny_call_exc_subT F TT hC hN hni (fun h' e hm => mk_of I hm r h (I.hok.gone hm.new)) (Nat.zero_le _)
def sRaise (x : Str) : SC := fun ρ μ => .ex ⟨x, none⟩ ρ μ
theorem ds_raise {x : Str} {p p2 : Pos} (E : Exc0 X.K X.mg x) (hc : X.calm = true := by rfl) (hg : Gl X x := by rfl) (hdb : (x == ("__debug__" : Str)) = false := by decide) : DS X T (.Raise (some (.Call (.Name x p) [] [] p2)) none pos) (sRaise x) := by
  obtain ⟨C, gC, q, kC, b, t⟩ := E.ex
  refine ⟨fun {ρ μ σ H F as} m en {D Wx} tk pp => vs_of (ps_raise hc tk (pmk_own0 PySem.F.excBase_ValueError q gC kC (raises_own b t) hg hdb)) ?_⟩
  exact pp (.ref C) none σ H F as (Ext.refl _ _) m en ⟨C, rfl, gC, rfl⟩
end
end Em
set_option maxRecDepth 100000
namespace Em
open PySem PySem.Spec PyProof.Rows L2
/-- which class is under which, as the program's own classes stand -/
def SubOk (K : PySem.W.Frag) (mg : Str → Option Value) (sub : Str → Str → Option Bool) : Prop := ∀ x h b, sub x h = some b → ∀ Cx Ch : Addr, mg x = some (.ref Cx) → mg h = some (.ref Ch) → PySem.W.exmOne K (.ref Cx) (.ref Ch) = some b
def noX : Out → Out
  | .ex _ _ _ => .no
  | o => o
def pick (sub : Str → Str → Option Bool) : List (Str × SC) → Ex → SC
  | [], x => fun ρ μ => .ex x ρ μ
  | (h, s) :: r, x => fun ρ μ => match sub x.cls h with
    | some true => noX (s ρ μ)
    | some false => pick sub r x ρ μ
    | none => .no
def sTry (sub : Str → Str → Option Bool) (cb : SC) (hs : List (Str × SC)) : SC := fun ρ μ => match cb ρ μ with
  | .ex x ρ' μ' => pick sub hs x ρ' μ'
  | o => o
section
variable {X : Cx} {T : Tb} {pos : Pos}
inductive DH (X : Cx) (T : Tb) : List ExceptHandler → List (Str × SC) → Prop
  | nil : DH X T [] []
  | cons {x : Str} {b₀ : Stmt} {suite : List Stmt} {np pos' : Pos} {hds : List ExceptHandler} {l : List (Str × SC)} {cs : SC} (hc : ∃ C : Addr, X.mg x = some (.ref C)) (hg : Gl X x) (hdb : (x == ("__debug__" : Str)) = false)
      (hsu : ∀ (a : Addr) (oe : Obj) (pn : List (Addr × Obj)), DB (X.suite a ((a, oe) :: pn)) T (b₀ :: suite) cs) (r : DH X T hds l) : DH X T (.ExceptHandler (some (.Name x np)) none (b₀ :: suite) pos' :: hds) ((x, cs) :: l)
theorem posts_noX {K : PySem.W.Frag} {mg : Str → Option Value} {F : Hp} {as : List Addr} {D : Ends} {Wx Wy : WX} {o : Out} (p : PostS K mg T F as D Wx (noX o)) : PostS K mg T F as D Wy o := by
  cases o with
  | ex x ρ μ => exact p.elim
  | nx ρ μ => exact p
  | rt r μ => exact p
  | bk ρ μ => exact p
  | ct ρ μ => exact p
  | no => exact p
theorem DH.run {sub : Str → Str → Option Bool} (hs : SubOk X.K X.mg sub) : ∀ {hds : List ExceptHandler} {l : List (Str × SC)}, DH X T hds l → ∃ L, HdsOk X hds L ∧ ∀ {x : Ex} {ρ : Vr} {μ : Mem} {σ : L2.St} {H F : Hp} {as : List Addr} {cls : Value} {d : Option Addr} {D : Ends} {Wx : WX}, Mm X.K T μ H F as → EnvR X.K ρ σ F as → XRel X.K X.mg F x cls d H → PostS X.K X.mg T F as D Wx (pick sub l x ρ μ) → wMany X.K Wx D L cls d σ H
  | _, _, .nil => ⟨[], .nil, fun {x ρ μ σ H F as cls d D Wx} m en xr p => p cls d σ H F as (Ext.refl _ _) m en xr⟩
  | _, _, .cons (x := h) (b₀ := b₀) (suite := suite) (cs := cs) hc hg hdb hsu r => by
    obtain ⟨L, h1, h2⟩ := DH.run hs r
    obtain ⟨C, hC⟩ := hc
    refine ⟨(.ref C, fun a cls d D σ H => ∀ (oe : Obj) (pn : List (Addr × Obj)), Zc cls d oe → (∃ vs, oe.data = .fields vs) → VB (X.suite a ((a, oe) :: pn)) (b₀ :: suite) σ H D) :: L,
      .cons ⟨hg, hdb, .inl hC⟩ (fun a oe cls d pn z1 z2 => ⟨fun pins s σ H D I q => q oe pn z1 z2 pins s I⟩) h1, fun {x ρ μ σ H F as cls d D Wx} m en xr p => ?_⟩
    unfold pick at p
    obtain ⟨Cx, rfl, hx, xa⟩ := id xr
    cases hsb : sub x.cls h with
    | none => rw [hsb] at p; exact p.elim
    | some b =>
      rw [hsb] at p
      refine ⟨b, hs _ _ _ hsb Cx C hx hC, fun hb a _ oe pn _ _ => ?_, fun hb => ?_⟩
      · subst hb
        exact (hsu a oe pn).run m en takes0 (posts_noX p)
      · subst hb
        exact h2 m en xr p
theorem ds_try {sub : Str → Str → Option Bool} {body : List Stmt} {h₀ : ExceptHandler} {hds : List ExceptHandler} {cb : SC} {l : List (Str × SC)} (hs : SubOk X.K X.mg sub) (hb : ∀ pn xe, DB (X.tr pn xe) T body cb) (hh : DH X T (h₀ :: hds) l) (h1 : X.stack = X.env :: X.outer := by rfl) (h2 : X.env.frame = some X.env.locals := by rfl) :
    DS X T (.Try body (h₀ :: hds) [] [] pos) (sTry sub cb l) := by
  obtain ⟨L, g1, g2⟩ := hh.run hs
  refine ⟨fun {ρ μ σ H F as} m en {D Wx} tk p => vs_of (ps_try_many (tb := fun W D σ H => ∀ (pn : List (Addr × Obj)) (xe : Value → Shared → Prop), Takes (X.tr pn xe) W → VB (X.tr pn xe) body σ H D) h1 h2 tk (fun W pn xe tk' _ => ⟨fun pins s σ H D I q => q pn xe tk' pins s I⟩) g1) fun pn xe tk' => ?_⟩
  refine (hb pn xe).run m en tk' ?_
  unfold sTry at p
  cases hc : cb ρ μ with
  | nx ρ' μ' => rw [hc] at p; exact p
  | rt r μ' => rw [hc] at p; exact p
  | bk ρ' μ' => rw [hc] at p; exact p
  | ct ρ' μ' => rw [hc] at p; exact p
  | no => rw [hc] at p; exact p
  | ex x ρ' μ' =>
    rw [hc] at p
    exact fun cls d σ' H' F' as' e m' en' xr => g2 m' en' xr (PostS.ext p e)
end

/-! ### a lambda without parameters, handed to a def that calls it -/
/-- the base told anew -/
def Tb.at (T : Tb) (F : Hp) (as : List Addr) : Tb := ⟨T.tabs, F, as⟩
theorem Mm.rebase {K : PySem.W.Frag} {T : Tb} {μ : Mem} {H F F0 : Hp} {as as0 : List Addr} (m : Mm K T μ H F as) (b : Ext F0 as0 F as) : Mm K (T.at F0 as0) μ H F as := ⟨m.same, m.ntb, m.nd, m.len, m.cell, m.tabs, b⟩
theorem Mm.unbase {K : PySem.W.Frag} {T : Tb} {μ : Mem} {H F F0 : Hp} {as as0 : List Addr} (m : Mm K (T.at F0 as0) μ H F as) (b : Ext T.F0 T.as0 F as) : Mm K T μ H F as := ⟨m.same, m.ntb, m.nd, m.len, m.cell, m.tabs, b⟩
abbrev SX' (X : Cx) (Ng : List Str) (x : Str) (sg : Scope) (g : Addr) (cdg : Value) (s : Shared) (H : Hp) : Cx := (cxOf L2.CX0 X.prog X.w X.K X.mg X.base Ng x sg g cdg X.A X.stack s H L2.E0).nox
def cThunk (i : Nat) (f : Addr) (th : Mem → Rs R) : EC := fun ρ μ => match ρ[i]? with
  | some (some (.o a)) => if a = f then th μ else .no
  | _ => .no
section
variable {X : Cx} {T : Tb} {pos : Pos} {pins : List (Addr × Obj)} {σ : L2.St} {H : Hp} {s : Shared}
/-- x() in the def that got the lambda; what it lets out is asked of this very state -/
theorem lam_act {Ng : List Str} {qg : Str} {sg : Scope} {g f c' : Addr} {cdg pm ctv : Value} {params : Arguments} {body : Expr} {scope : Scope} {k i : Nat} {a : Str} {pn : List (Addr × Obj)} {xe : Value → Shared → Prop} {E : XK} {p1 p2 : Pos} {σZ : L2.St} {HZ : Hp} {Q : VK}
    (I : Inv X pins σ H s) (L : LamX.LamS X.env.scope scope) (hf : s.heap.get? f = some (PySem.W.kla_obj "<lambda>" (X.env.qual ++ "<lambda>") params body scope (cloFrom X.env.cells scope.names []) pm c' ctv)) (hfn : H f = none) (hfr : f ∉ frs X.stack)
    (hbind : bindArgs (PySem.W.kla_fn "<lambda>" (X.env.qual ++ "<lambda>") params body scope (cloFrom X.env.cells scope.names []) pm (.ref c') ctv) ⟨[], []⟩ = pure [])
    (out : ∀ s1 e s', L2.CX X.prog X.w ((SX' X Ng qg sg g cdg s H).tr pn xe).stack HZ s1 E e s' → ∀ pinsZ, Inv ((SX' X Ng qg sg g cdg s H).tr pn xe) pinsZ σZ HZ s1 → xe e s') (hr : Room (k + 1) (X.A.deeper (envOfC qg sg s.heap.objs.size g cdg)))
    (hbody : ∀ (A : Around) (outer : List Env) (s1 : Shared), Room k (A.deeper (LamX.lamEnv X scope s1.heap.objs.size f c')) → VE (LamX.lamCx X A outer s1 HZ E scope f c') body σ HZ Q)
    (hN : Ng[i]? = some a) (hv : Vis sg a) (hs : σZ[i]? = some (some (.ref f))) (hc : HZ c' = some (LamX.CodeO c' (X.env.qual ++ "<lambda>"))) (hd : (a == ("__debug__" : Str)) = false := by decide) (hcd : (a == ("__classdict__" : Str)) = false := by decide) :
    VE ((SX' X Ng qg sg g cdg s H).tr pn xe) (.Call (.Name a p1) [] [] p2) σZ HZ Q := by
  intro pinsZ sZ IZ
  have nameRun := (pe_var (X := (SX' X Ng qg sg g cdg s H).tr pn xe) (pos := p1) (i := i) hN hv hd hcd).run pinsZ sZ σZ HZ (fun v H1 => v = .ref f ∧ H1 = HZ) IZ ⟨.ref f, hs, rfl, rfl⟩
  refine wpAny_Call_Name_kw (thn nameRun ?_)
  rintro u s1 ⟨v, H1, I1, ru, rfl, rfl⟩
  obtain rfl : u = Value.ref f := ru
  have held : s1.heap.get? f = some (PySem.W.kla_obj "<lambda>" (X.env.qual ++ "<lambda>") params body scope (cloFrom X.env.cells scope.names []) pm c' ctv) := I1.base.keep f _ hf hfn hfr (fun z => nomatch (show f ∈ ([] : List Addr) from z))
  refine PySem.W.callWith_F0 ⟨_, _, _, _, held⟩ ?_
  have un : Un (frs X.stack) [] H H1 s.heap s1.heap := I1.base
  obtain ⟨⟨oc, vs, t, hoc, hdc, hvc⟩, _, _⟩ := I1.hok c' _ hc
  have run : codeAny (model X.prog X.w) (X.A.deeper (envOfC qg sg s.heap.objs.size g cdg)) (.call (.ref f) ⟨[], []⟩) (CR (L2.CX X.prog X.w) (envOfC qg sg s.heap.objs.size g cdg :: X.stack) X.prog X.w H1 s1 Q E) s1 := by
    refine PySem.W.kla_callFunE hr.depth held rfl L.co L.gen rfl ⟨c', oc, vs, t, rfl, hoc, hdc, hvc⟩ ?_
    rw [hbind]
    refine wpAny_pure (wpAny_newFunctionEnv (fun y hy => (L.own y hy).2) (fun y hy => absurd hy (by simp)) ?_ L.kind)
    intro h₁ hns hsb
    refine ⟨I1.nolimit.fresh _ hsb, ?_⟩
    have kp : ∀ b o, s1.heap.get? b = some o → h₁.get? b = some o := fun b o e => hsb.extBut b o (Nat.ne_of_lt (Heap.lt_size e)) (Heap.get?_push_of_some _ e)
    have J : Inv (LamX.lamCx X (X.A.deeper (envOfC qg sg s.heap.objs.size g cdg)) (envOfC qg sg s.heap.objs.size g cdg :: X.stack) s1 H1 E scope f c') [] σ H1 { s1 with heap := h₁, toks := s1.toks + ([] : List (Str × Value)).length } := LamX.lam_start2 I L I1.env0 hr.hd un hns kp
    refine PySem.W.kla_codeExpr (wpAny_mono (hbody _ _ s1 (hr.deeper _) [] _ J) ?_ fun e s' hq => hq)
    rintro v s' ⟨w', H', J', rv, q⟩
    exact ⟨w', H', J'.os, J'.bare, J'.base, J'.hok, rv, q⟩
  refine wpAny_call (codeAny_mono run ?_)
  intro res s' hres
  match res, hres with
  | .error e, hres => exact out s1 e s' hres pinsZ I1
  | .ok (.ret u), hres => exact I1.after hres
  | .ok .next, hres => exact hres.elim
  | .ok .brk, hres => exact hres.elim
  | .ok .cont, hres => exact hres.elim
/-- what is known of the code object at c', too -/
def withO (F : Hp) (c' : Addr) (o : HO) : Hp := fun b => if b = c' then some o else F b
theorem Mm.code {K : PySem.W.Frag} {μ : Mem} {H1 F : Hp} {as : List Addr} {c' : Addr} {q : Str} (m : Mm K T μ H F as) (eN : LamX.ExtN H H1) (T1 : LamX.Tabs T.tabs H1) (hco : H1 c' = some (LamX.CodeO c' q)) :
    Mm K (T.at (withO F c' (LamX.CodeO c' q)) as) μ H1 (withO F c' (LamX.CodeO c' q)) as ∧ Ext F as (withO F c' (LamX.CodeO c' q)) as := by
  have up : ∀ b o, F b = some o → H1 b = some o := fun b o e => eN b o (m.same b o e) fun ps z => m.ntb b ps (z ▸ e)
  have sF : Same F (withO F c' (LamX.CodeO c' q)) := fun b o e => by
    unfold withO
    by_cases hb : b = c'
    · subst hb
      have := (up b o e).symm.trans hco
      cases this
      rw [if_pos rfl]
    · rw [if_neg hb]; exact e
  refine ⟨⟨fun b o e => ?_, fun b ps e => ?_, m.nd, m.len, fun n c a h1 h2 => ?_, T1, Ext.refl _ _⟩, Ext.eqv sF⟩
  · unfold withO at e
    by_cases hb : b = c'
    · subst hb; rw [if_pos rfl] at e; cases e; exact hco
    · rw [if_neg hb] at e; exact up b o e
  · unfold withO at e
    by_cases hb : b = c'
    · rw [if_pos hb] at e; exact LamX.codeO_ne ps (Option.some.inj e)
    · rw [if_neg hb] at e; exact m.ntb b ps e
  · have h3 := m.cell n c a h1 h2
    have live : ∀ {o : HO}, H a = some o → (∀ ps, o ≠ .tbl ps) → (∀ φ, o ≠ .ext φ) → F a = none → H1 a = some o ∧ withO F c' (LamX.CodeO c' q) a = none := fun {o} e n1 n2 hF => by
      have e1 := eN a o e n1
      refine ⟨e1, ?_⟩
      unfold withO
      rw [if_neg]
      · exact hF
      · intro z
        rw [z, hco] at e1
        exact n2 _ (Option.some.inj e1).symm
    cases c with
    | lst ds =>
      obtain ⟨hF, vs, e, d⟩ := h3
      obtain ⟨e1, e2⟩ := live e (fun ps z => by cases z) (fun φ z => by cases z) hF
      exact ⟨e2, vs, e1, DqAll_mono sF d⟩
    | frz ds => obtain ⟨vs, e, d⟩ := h3; exact ⟨vs, sF _ _ e, DqAll_mono sF d⟩
    | dk kvs =>
      obtain ⟨hF, vs, e, d1, d2⟩ := h3
      obtain ⟨e1, e2⟩ := live e (fun ps z => by cases z) (fun φ z => by cases z) hF
      exact ⟨e2, vs, e1, d1, DqAll_mono sF d2⟩
def cLam (ψ : (Mem → Rs R) → Mem → Rs R) (cb : EC) : EC := fun ρ μ => match ψ (fun μ' => cb ρ μ') μ with
  | .ok r μ' => .ok r μ'
  | _ => .no
/-- x(lambda: body), x a def of one parameter that calls it -/
theorem de_lam {x a : Str} {g c P : Addr} {k : Nat} {pg : Arguments} {bg : List Stmt} {sg : Scope} {dV kV doc pm cdv ct oc : Value} {an od : Option Addr} {osl : Array (Option Value)} {Ng : List Str}
    {params : Arguments} {body : Expr} {scope : Scope} {p lpos : Pos} {cbody : EC} {cb : Addr → (Mem → Rs R) → SC} {ψ : (Mem → Rs R) → Mem → Rs R} (hm : X.mg x = some (.ref g)) (hk : PySem.W.keepIn X.K (.ref g) = true)
    (lk : X.K.lookup g = some ⟨oc, od, .func (PySem.W.fnOf x x pg bg sg dV kV doc pm an cdv ct), osl⟩) (hcg : PySem.W.codeIn X.K cdv x = true) (hb : L2.Binds X.K (PySem.W.fnOf x x pg bg sg dV kV doc pm an cdv ct) [a] []) (Sg : FnScope Ng [a] sg) (hNg : Ng[0]? = some a) (hva : Vis sg a)
    (TB : LamX.TabB X.base X.mg c P) (hcode : X.env.code = .ref c) (hmT : (P, X.env.qual ++ "<lambda>") ∈ T.tabs) (hu : ∀ p ∈ T.tabs, p.1 = P → p.2 = X.env.qual ++ "<lambda>") (hr : Room (k + 2) X.A) (L : LamX.LamS X.env.scope scope) (hdef : defaultsOf params X.env = ([], []))
    (hbind : ∀ (q : Str) (cl : List (Str × Addr)) (pm cv ctv : Value), bindArgs (PySem.W.kla_fn "<lambda>" q params body scope cl pm cv ctv) ⟨[], []⟩ = pure [])
    (hbody : ∀ (A : Around) (outer : List PySem.Env) (s : Shared) (H : Hp) (E : XK) (f c' : Addr), Room k (A.deeper (LamX.lamEnv X scope s.heap.objs.size f c')) → DE (LamX.lamCx X A outer s H E scope f c') T body cbody)
    (hB : ∀ (s : Shared) (H : Hp) (f : Addr) (T' : Tb) (th : Mem → Rs R), Room (k + 1) (X.A.deeper (envOfC x sg s.heap.objs.size g cdv)) → (∀ pn xe p1 p2, DE ((SX' X Ng x sg g cdv s H).tr pn xe) T' (.Call (.Name a p1) [] [] p2) (cThunk 0 f th)) → DB (SX' X Ng x sg g cdv s H) T' bg (cb f th))
    (hψ : ∀ f th μ, expo μ.length (cb f th (some (.o f) :: List.replicate (Ng.length - 1) none) μ) = ψ th μ) (hg : Gl X x := by rfl)
    (hdb : (x == ("__debug__" : Str)) = false := by decide) (hd : (a == ("__debug__" : Str)) = false := by decide) (hcd : (a == ("__classdict__" : Str)) = false := by decide) :
    DE X T (.Call (.Name x p) [.Lambda params body scope lpos] [] pos) (cLam ψ cbody) := by
  refine ⟨fun {ρ μ σ H F as} m en {Q Wx} tk pp pins s I => ?_⟩
  refine wpAny_Call_Name_kw (ld_glob I hg hm ?_ hdb)
  refine PySem.W.callWith_K (h₀ := X.base) I.ok.mod.kin hk ?_ (by rfl) (by rfl)
  show wpAny _ _ (spliced ((false, eval (.Lambda params body scope lpos) X.env) :: backTo pos (starEach [] X.env))) _ _ s
  refine Calls.spliced_cons (LamX.lam_make2 I TB hcode hmT hu m.tabs hdef (L.has I.ok) ?_)
  intro f c' pm' ctv H1 s' I1 eN T1 hf hfn hfr hco
  refine Calls.spliced_nil ⟨I1.kIn, ?_⟩
  obtain ⟨m1, e1⟩ := m.code eN T1 hco
  have rc : codeAny (model X.prog X.w) X.A (.call (.ref g) ⟨[.ref f], []⟩) (CR L2.CX0 X.stack X.prog X.w H1 s' Q L2.E0) s' := by
    refine LamX.run_ofS (N := Ng) (ps := [a]) (us := [.ref f]) (vs := [.ref f]) lk hcg Sg hr I1.env0 (hb s' [.ref f] I1.kIn rfl) (.cons rfl .nil) rfl fun hr' => ⟨_, (pss_self (X := SX' X Ng x sg g cdv s' H1)).nox, ?_⟩
    have act : ∀ pn xe p1 p2, DE ((SX' X Ng x sg g cdv s' H1).tr pn xe) (T.at (withO F c' (LamX.CodeO c' (X.env.qual ++ "<lambda>"))) as) (.Call (.Name a p1) [] [] p2) (cThunk 0 f (fun μ' => cbody ρ μ')) := fun pn xe p1 p2 => by
      refine ⟨fun {ρZ μZ σZ HZ FZ asZ} mZ enZ {QZ WZ} tkZ ppZ => ?_⟩
      unfold cThunk at ppZ
      cases h0 : ρZ[0]? with
      | none => simp only [h0] at ppZ; exact ppZ.elim
      | some o =>
        cases o with
        | none => simp only [h0] at ppZ; exact ppZ.elim
        | some r =>
          simp only [h0] at ppZ
          cases r with
          | d x => exact ppZ.elim
          | c n => exact ppZ.elim
          | fl ds => exact ppZ.elim
          | fk ds => exact ppZ.elim
          | o b =>
            simp only at ppZ
            by_cases hbf : b = f
            · subst hbf
              rw [if_pos rfl] at ppZ
              obtain ⟨v0, g1, g2⟩ := enZ.2 0 _ h0
              cases g2
              have bZ := mZ.base
              refine lam_act (E := fun cls d H' => WZ cls d σZ H') I1 L hf hfn hfr (hbind _ _ _ _ _) (fun s1 e s'' hq pinsZ IZ => tkZ e s'' (XE.of_call IZ (fun cls d H' h => h) hq)) hr' (fun A outer s1 hr2 => ?_) hNg hva g1 (mZ.same _ _ (bZ.same _ _ (if_pos rfl))) hd hcd
              refine (hbody A outer s1 HZ _ b c' hr2).run (mZ.unbase ((m.base.trans e1).trans bZ)) (en.mono (e1.trans bZ)) (takes_of rfl rfl rfl rfl) ?_
              cases hth : cbody ρ μZ with
              | ok r μ' => rw [hth] at ppZ; exact fun v H' F' as' e m' rel => ppZ v H' F' as' e (m'.rebase (bZ.trans e)) rel
              | ex x μ' => rw [hth] at ppZ; exact fun cls d H' F' as' e m' rel => ppZ cls d H' F' as' e (m'.rebase (bZ.trans e)) rel
              | no => rw [hth] at ppZ; exact ppZ
            · rw [if_neg hbf] at ppZ; exact ppZ.elim
    have enS : EnvR X.K (some (.o f) :: List.replicate (Ng.length - 1) none) (L2.start Ng [V.ref f]) (withO F c' (LamX.CodeO c' (X.env.qual ++ "<lambda>"))) as := env_start (N := Ng) (ws := [.o f]) (.cons rfl .nil)
    refine (hB s' H1 f _ _ hr' act).run m1 enS (Wx := fun _ _ _ _ => False) takes0 (posts_body (H := H1) (E := fun _ _ _ => False) m1.len m1.base ?_)
    rw [hψ]
    unfold cLam at pp
    cases hq : ψ (fun μ' => cbody ρ μ') μ with
    | ok r μ' => rw [hq] at pp; exact fun v H' F' sm m' rel => pp v H' F' as (e1.trans (Ext.eqv sm)) (m'.unbase ((m.base.trans e1).trans (Ext.eqv sm))) rel
    | ex x μ' => rw [hq] at pp; exact pp.elim
    | no => rw [hq] at pp; exact pp.elim
  refine wpAny_call (codeAny_mono rc ?_)
  intro res s2 hres
  match res, hres with
  | .error e, hres => exact (show False from hres).elim
  | .ok (.ret u), hres => exact I1.after hres
  | .ok .next, hres => exact hres.elim
  | .ok .brk, hres => exact hres.elim
  | .ok .cont, hres => exact hres.elim
end
end Em
set_option maxRecDepth 100000
namespace Em
open PySem PySem.Spec PyProof.Rows L2
/-! ### a, b = x, y -/
section
variable {X : Cx} {T : Tb} {pos : Pos}
def sPar (i j : Nat) (ca cb : EC) : SC := fun ρ μ => (ca ρ μ).thenS ρ fun r μ1 => (cb ρ μ1).thenS ρ fun r' μ2 => .nx ((ρ.set i (some r)).set j (some r')) μ2
theorem ds_par (i j : Nat) {x y : Str} {a b : Expr} {ca cb : EC} {px py pt : Pos} {kt k2 pt2} (hN : X.N.Nodup) (h1 : DW X T a ca) (h2 : DW X T b cb) (hc : X.calm = true := by rfl) (hi : X.N[i]? = some x := by rfl) (hj : X.N[j]? = some y := by rfl) (hij : i ≠ j := by decide)
    (hx : X.env.scope.names.lookup x = some .local := by rfl) (hy : X.env.scope.names.lookup y = some .local := by rfl)
    (hw : swappedStores [.Tuple [.Name x px, .Name y py] kt pt] (.Tuple [a, b] k2 pt2) X.env = pure (some [x, y]) := by rfl)
    (hs : swapsWithSole [.Tuple [.Name x px, .Name y py] kt pt] (.Tuple [a, b] k2 pt2) pos.line X.env = pure false := by rfl)
    (hs1 : starEach [a, b] X.env = (false, eval a X.env) :: starEach [b] X.env := by rfl) (hs2 : starEach [b] X.env = (false, eval b X.env) :: starEach [] X.env := by rfl) :
    DS X T (.Assign [.Tuple [.Name x px, .Name y py] kt pt] (.Tuple [a, b] k2 pt2) pos) (sPar i j ca cb) := by
  refine ⟨fun {ρ μ σ H F as} m en {D Wx} tk p => vs_of (ps_par hc hN hi hj hij hx hy (pa_cons pe_self (pa_cons pe_self pa_nil hs2) hs1) hw hs) ?_⟩
  refine h1.run m en tk (w_then en p fun r μ1 p1 v H1 F1 as1 e1 m1 r1 => ?_)
  refine h2.run m1 (en.mono e1) tk (w_then (en.mono e1) (PostS.ext p1 e1) fun r' μ2 p2 v' H2 F2 as2 e2 m2 r2 => ?_)
  refine ⟨v, v', rfl, p2 _ H2 F2 as2 e2 m2 ((((en.mono e1).mono e2).set (r1.mono e2) i).set r2 j)⟩
end
/-! ### classes as a list -/
def subF (l : List (Str × Str × Bool)) : Str → Str → Option Bool := fun x h => (l.find? fun e => e.1 == x && e.2.1 == h).map fun e => e.2.2
theorem subF_ok {K : PySem.W.Frag} {mg : Str → Option Value} {l : List (Str × Str × Bool)} (h : ∀ e ∈ l, ∀ Cx Ch : Addr, mg e.1 = some (.ref Cx) → mg e.2.1 = some (.ref Ch) → PySem.W.exmOne K (.ref Cx) (.ref Ch) = some e.2.2) : SubOk K mg (subF l) := by
  intro x y b e Cx Ch h1 h2
  unfold subF at e
  cases hf : l.find? fun e => e.1 == x && e.2.1 == y with
  | none => rw [hf] at e; cases e
  | some z =>
    rw [hf] at e
    cases e
    have hm := List.mem_of_find?_eq_some hf
    have hp := List.find?_some hf
    simp only [Bool.and_eq_true, beq_iff_eq] at hp
    obtain ⟨p1, p2⟩ := hp
    subst p1
    subst p2
    exact h z hm Cx Ch h1 h2
theorem sub_one {K : PySem.W.Frag} {mg : Str → Option Value} {x y : Str} {b : Bool} {C D : Addr} (h1 : mg x = some (.ref C)) (h2 : mg y = some (.ref D)) (h : PySem.W.exmOne K (.ref C) (.ref D) = some b) : ∀ Cx Ch : Addr, mg x = some (.ref Cx) → mg y = some (.ref Ch) → PySem.W.exmOne K (.ref Cx) (.ref Ch) = some b := by
  intro Cx Ch g1 g2
  rw [h1] at g1; cases g1
  rw [h2] at g2; cases g2
  exact h
/-! ### a def whose code object is known -/
def lamQ (x : Str) : Str := (envOfC x { kind := .function, names := [], isGenerator := false, isCoroutine := false } 0 0 .none).qual ++ "<lambda>"
theorem fnC {P : Program} {w : World} {K : PySem.W.Frag} {mg : Str → Option Value} {base : Heap} {T : Tb} {x : Str} {st : Stmt} {f : Addr} {N ps : List Str} {k n : Nat} {body : SC} {dV kV doc pm ct oc cdv : Value} {an od : Option Addr} {osl : Array (Option Value)}
    (lk : K.lookup f = some ⟨oc, od, .func (PySem.W.fnOf x x (defArgs st) (defBody st) (defScope st) dV kV doc pm an cdv ct), osl⟩) (hcd : PySem.W.codeIn K cdv x = true) (S : FnScope N ps (defScope st)) (hn : ps.length = n)
    (h : ∀ (A : Around) (outer : List Env) (s : Shared) (H : Hp) (E : XK), Room k (A.deeper (envOfC x (defScope st) s.heap.objs.size f cdv)) → DB (cxOf (L2.CX P w) P w K mg base N x (defScope st) f cdv A outer s H E) T (defBody st) body) :
    FnOk P w K mg base (L2.CX P w) (k + 1) f (PySem.W.fnOf x x (defArgs st) (defBody st) (defScope st) dV kV doc pm an cdv ct) ps (spOf T K mg n (fnOf N.length body)) := by
  subst hn
  refine fn_of lk hcd S (fun vs H Q E q => q.1) fun A outer s H vs Q E hr hsp => ⟨_, pss_self, ?_⟩
  obtain ⟨hl, ws, μ, F, as, m, rel, p⟩ := hsp
  exact (h A outer s H E hr).run m (env_start rel) (takes_of rfl rfl rfl rfl) (posts_body (H := H) m.len m.base p)
/-! ### the end -/
theorem walk_ofL {l : PySem.W.OpenLaw} {n k : Nat} {q : Program} {loose : List Str} {XP : (Str → Option Value) → Heap → Prop} {YP : World → Heap → Prop} {d : DefRec} {K : Params → PySem.W.Frag} {x : Str}
    (hn : l.most = some n) (hn2 : n ≤ sizeLine) (hdf : d.params.defaults = []) (hr : Room k callerA) (hY : ∀ (w : World) (h : Heap), YP w h → (K w.params).In h)
    (F : ∀ (w : World) (mg mb : Str → Option Value) (fa : Addr) (h : Heap) (mean : ExcName → Option Value), Top q (PySem.W.looseW q loose) mean mg mb h → (K w.params).In h → mg d.name = some (.ref fa) → LamX.LawAtS l w (K w.params) (L2.CX l.prog w) k n x mg fa h) :
    PySem.W.WalkO q loose XP YP l.row.toRowW d [] (fun f vs => PySem.call f vs) := by
  refine Att.attach_callB hn hdf fun w s₀ s₁ mg mb fa o pm cd doc a vs ns G Y ho hd hcd hmg hobj hints hlen hbits hg => ?_
  have KX := hY w _ Y
  obtain ⟨fd, cs, sp, hT, nT, C, hb, hsp, hF⟩ := F w mg mb fa _ _ G.T KX hmg
  exact LamX.law_callTs KX G.T.g G.T.b G.T.builtins G.T.nolimit hg hT nT C G.T.bmain hobj hints (Nat.le_trans hlen hn2) hr hF hb (fun H hH hS => hsp H a ns hlen hbits hH hS) fun H e s' c => by
    obtain ⟨_, _, _, _, _, _, _, _, _, _, _, _, z⟩ := c
    exact z
/-- the tables of one list of code objects, each with one name -/
def tb0 (tabs : List (Addr × Str)) : Tb := ⟨tabs, fun _ => none, []⟩
def noTb (H : Hp) : Hp := fun b => match H b with
  | some (.tbl _) => none
  | o => o
def noListK (K : PySem.W.Frag) : Bool := K.all fun e => match e.2.cls with
  | .type t => !(t == "list")
  | _ => true
theorem noListK_no {K : PySem.W.Frag} (h : noListK K = true) {a : Addr} {o : Obj} (e : K.lookup a = some o) : o.cls ≠ .type "list" := fun z => by
  have hm : (a, o) ∈ K := by
    clear h
    induction K with
    | nil => cases e
    | cons p K ih =>
      obtain ⟨b, o'⟩ := p
      rw [List.lookup_cons] at e
      by_cases hb : a = b
      · subst hb; simp at e; subst e; exact List.mem_cons_self
      · have : (a == b) = false := by simpa using hb
        rw [this] at e
        exact List.mem_cons_of_mem _ (ih e)
  have q := List.all_eq_true.mp h _ hm
  simp only [z] at q
  exact absurd q (by decide)
theorem dq_ints {K : PySem.W.Frag} {F : Hp} : ∀ ns : List Int, DqAll K F (ns.map V.int) (ns.map PyData.int)
  | [] => .nil
  | n :: ns => .cons (.int n) (dq_ints ns)
theorem tabIn_mk {K : PySem.W.Frag} {x : Str} {f c P : Addr} {oc oc2 : Value} {od od2 : Option Addr} {osl osl2 : Array (Option Value)} {fd : FuncData} {vs : Array Value} (a : PySem.W.nsIn K mainGlobals x = some (some (.ref f))) (l : K.lookup f = some ⟨oc, od, .func fd, osl⟩) (hc : fd.code = .ref c)
    (l2 : K.lookup c = some ⟨oc2, od2, .fields vs, osl2⟩) (hv : vs[11]? = some (.ref P)) : PySem.W.tabIn K x = some (c, P) := by
  unfold PySem.W.tabIn
  simp only [a, l, hc, l2, hv]
theorem sp_end {K : PySem.W.Frag} {mg : Str → Option Value} {φ : Fn} {tabs : List (Addr × Str)} {cs : List (Addr × Addr)} {H : Hp} {a : Addr} {ns : List Int} (hL : noListK K = true) (ht : ∀ p ∈ tabs, ∃ c, (c, p.1) ∈ cs) (hH : ∀ p ∈ cs, H p.2 = some (.tbl #[])) (hS : SqL K H a (ns.map V.int))
    (hφ : ∃ μ', φ [.d (.list (ns.map .int))] [] = .ok (.d (.bool true)) μ') : spOf (tb0 tabs) K mg 1 φ [.ref a] H (fun v _ => v = .bl true) fun _ _ _ => False := by
  obtain ⟨μ', e⟩ := hφ
  have same : Same (noTb H) H := fun b o q => by
    unfold noTb at q
    split at q
    · cases q
    · exact q
  have hS' : Rd (noTb H) a (.lst (ns.map V.int)) := by
    rcases hS with (h | ⟨o, h⟩) | ⟨o, its, n, h1, h2, _⟩
    · refine .inl ?_; unfold noTb; rw [h]
    · refine .inr ⟨o, ?_⟩; unfold noTb; rw [h]
    · exact absurd h2 (noListK_no hL h1)
  refine ⟨rfl, [.d (.list (ns.map .int))], [], noTb H, [], ⟨same, fun b ps q => ?_, List.nodup_nil, rfl, fun n c a h1 h2 => by simp at h1, fun p hp => ?_, ⟨fun b o q => (by have q' : (none : Option HO) = some o := q; cases q'), ⟨[], rfl⟩⟩⟩, .cons (.lst hS' (dq_ints ns)) .nil, ?_⟩
  · unfold noTb at q
    split at q
    · cases q
    · rename_i h; exact h ps q
  · obtain ⟨c, hc⟩ := ht p hp
    exact LamX.TabS.nil (hH _ hc)
  · rw [e]
    intro v H' F' s m r
    have r' : Dq K F' v (.bool true) := r
    cases r'
    rfl
end Em
set_option maxRecDepth 100000
namespace Em
open PySem PySem.Spec PyProof.Rows L2
/-! ### plain laws of the runs -/
/-- what an iterable gives, whatever the memory -/
structure ItmIs (j : Itm) (ds : List D) : Prop where
  len : ∀ μ, itLen j μ = some ds.length
  at_ : ∀ μ i, itAt j i μ = ds[i]?
theorem itm_list (ds : List D) : ItmIs (.seq (.d (.list ds))) ds := ⟨fun _ => rfl, fun _ _ => rfl⟩
theorem itm_tuple (ds : List D) : ItmIs (.seq (.d (.tuple ds))) ds := ⟨fun _ => rfl, fun _ _ => rfl⟩
def rngD (lo : Int) (n : Nat) : List D := (List.range n).map fun (i : Nat) => .int (lo + (i : Nat))
theorem itm_rng (lo : Int) (n : Nat) : ItmIs (.rng lo 1 n) (rngD lo n) := by
  refine ⟨fun _ => by simp [itLen, rngD], fun _ i => ?_⟩
  show (if i < n then some (PyData.int (lo + (i : Nat) * 1)) else none) = _
  unfold rngD
  rw [List.getElem?_map]
  by_cases h : i < n
  · rw [if_pos h, List.getElem?_range h]; simp
  · rw [if_neg h, List.getElem?_eq_none (by simp; omega)]; rfl
def signsD (s : Str) : List D := s.cps.toList.map fun c => .str ⟨#[c]⟩
theorem itm_txt (s : Str) : ItmIs (.txt s) (signsD s) := by
  refine ⟨fun _ => by simp [itLen, signsD], fun _ i => ?_⟩
  show (s.cps[i]?).map (fun c => PyData.str ⟨#[c]⟩) = _
  unfold signsD
  rw [List.getElem?_map]
  simp
def enmD (ds : List D) : List D := (List.range ds.length).zipWith (fun (i : Nat) d => .tuple [.int (i : Nat), d]) ds
theorem itm_enm (ds : List D) : ItmIs (.enm (.d (.list ds))) (enmD ds) := by
  refine ⟨fun _ => by simp [itLen, enmD, seeL, see], fun _ i => ?_⟩
  show (ds[i]?).map (fun d => PyData.tuple [.int (i : Nat), d]) = _
  unfold enmD
  rw [List.getElem?_zipWith]
  by_cases h : i < ds.length
  · rw [List.getElem?_range h, List.getElem?_eq_getElem h]; rfl
  · rw [List.getElem?_eq_none (by omega : ds.length ≤ i)]
    cases (List.range ds.length)[i]? <;> rfl
/-- for, by what holds from turn to turn -/
theorem forL_post {b : D → SC} {j : Itm} {ds : List D} (hj : ItmIs j ds) (I : Nat → Vr → Mem → Prop) (Post : Out → Prop)
    (step : ∀ i d ρ μ, ds[i]? = some d → I i ρ μ → (∃ ρ' μ', (b d ρ μ = .nx ρ' μ' ∨ b d ρ μ = .ct ρ' μ') ∧ I (i + 1) ρ' μ') ∨ (∃ ρ' μ', b d ρ μ = .bk ρ' μ' ∧ Post (.nx ρ' μ')) ∨ (∃ r μ', b d ρ μ = .rt r μ' ∧ Post (.rt r μ')) ∨ ∃ x ρ' μ', b d ρ μ = .ex x ρ' μ' ∧ Post (.ex x ρ' μ'))
    (fin : ∀ ρ μ, I ds.length ρ μ → Post (.nx ρ μ)) : ∀ k i ρ μ, i + k = ds.length → I i ρ μ → Post (forL b j k i ρ μ)
  | 0, i, ρ, μ, e, h => by
    unfold forL
    rw [if_pos (by rw [hj.len]; congr 1; omega)]
    have : i = ds.length := by omega
    subst this
    exact fin ρ μ h
  | k + 1, i, ρ, μ, e, h => by
    unfold forL
    have hi : i < ds.length := by omega
    rw [hj.at_, List.getElem?_eq_getElem hi]
    simp only
    rcases step i ds[i] ρ μ (List.getElem?_eq_getElem hi) h with ⟨ρ', μ', (q | q), h'⟩ | ⟨ρ', μ', q, h'⟩ | ⟨r, μ', q, h'⟩ | ⟨x, ρ', μ', q, h'⟩
    · rw [q]; exact forL_post hj I Post step fin k (i + 1) ρ' μ' (by omega) h'
    · rw [q]; exact forL_post hj I Post step fin k (i + 1) ρ' μ' (by omega) h'
    · rw [q]; exact h'
    · rw [q]; exact h'
    · rw [q]; exact h'
theorem for_inv {b : D → SC} {j : Itm} {ds : List D} (hj : ItmIs j ds) (I : Nat → Vr → Mem → Prop) (step : ∀ i d ρ μ, ds[i]? = some d → I i ρ μ → ∃ ρ' μ', b d ρ μ = .nx ρ' μ' ∧ I (i + 1) ρ' μ') {ρ : Vr} {μ : Mem} (h : I 0 ρ μ) :
    ∃ ρ' μ', forL b j ds.length 0 ρ μ = .nx ρ' μ' ∧ I ds.length ρ' μ' :=
  forL_post hj I (fun o => ∃ ρ' μ', o = .nx ρ' μ' ∧ I ds.length ρ' μ') (fun i d ρ μ e h => let ⟨ρ', μ', q, h'⟩ := step i d ρ μ e h; .inl ⟨ρ', μ', .inl q, h'⟩) (fun ρ μ h => ⟨ρ, μ, rfl, h⟩) ds.length 0 ρ μ (by omega) h
theorem sFor_eq {ci : Vr → Mem → Rs Itm} {g : GC} {b : SC} {ρ : Vr} {μ μ1 : Mem} {j : Itm} {ds : List D} (hj : ItmIs j ds) (h : ci ρ μ = .ok j μ1) : sFor ci g b ρ μ = forL (stepS g b) j ds.length 0 ρ μ1 := by
  unfold sFor
  rw [h]
  simp only [Rs.thenS, hj.len]
/-- a comprehension, by what holds from turn to turn -/
theorem lcL_post {f : D → Mem → Rs (Option D)} {j : Itm} {ds : List D} (hj : ItmIs j ds) {n0 : Nat} (I : Nat → List D → Mem → Prop)
    (step : ∀ i d acc μ, ds[i]? = some d → μ.length = n0 → I i acc μ → ∃ y μ', f d (μ ++ [.lst acc]) = .ok y (μ' ++ [.lst acc]) ∧ μ'.length = n0 ∧ I (i + 1) (acc ++ y.toList) μ') :
    ∀ k i acc μ, i + k = ds.length → acc.length ≤ i → ds.length ≤ sizeLine → μ.length = n0 → I i acc μ → ∃ acc' μ', lcL f j n0 k i (μ ++ [.lst acc]) = .ok (.fl acc') μ' ∧ μ'.length = n0 ∧ acc'.length ≤ ds.length ∧ I ds.length acc' μ'
  | 0, i, acc, μ, e, hl, hs, hm, h => by
    unfold lcL
    have : i = ds.length := by omega
    subst this
    rw [if_pos (hj.len _), List.getElem?_append_right (by omega), hm]
    simp only [Nat.sub_self, List.getElem?_cons_zero]
    rw [if_pos (by simp [hm])]
    refine ⟨acc, μ, ?_, hm, hl, h⟩
    rw [← hm, List.take_left]
  | k + 1, i, acc, μ, e, hl, hs, hm, h => by
    unfold lcL
    have hi : i < ds.length := by omega
    rw [hj.at_, List.getElem?_eq_getElem hi]
    simp only
    obtain ⟨y, μ', q, hm', h'⟩ := step i ds[i] acc μ (List.getElem?_eq_getElem hi) hm h
    rw [q]
    cases y with
    | none =>
      simp only
      rw [Option.toList_none, List.append_nil] at h'
      exact lcL_post hj I step k (i + 1) acc μ' (by omega) (by omega) hs hm' h'
    | some x =>
      simp only
      rw [List.getElem?_append_right (by omega), hm']
      simp only [Nat.sub_self, List.getElem?_cons_zero]
      rw [if_pos (by omega)]
      have es : (μ' ++ [Cell.lst acc]).set n0 (.lst (acc ++ [x])) = μ' ++ [.lst (acc ++ [x])] := by
        rw [List.set_append_right _ _ (by omega), hm', Nat.sub_self]
        rfl
      rw [es]
      exact lcL_post hj I step k (i + 1) (acc ++ [x]) μ' (by omega) (by simp; omega) hs hm' h'
theorem cLc_post {ci : Vr → Mem → Rs Itm} {own : List Nat} {g : GC} {tt : TC} {te : EC} {ρ : Vr} {μ μ1 : Mem} {j : Itm} {ds : List D} (hj : ItmIs j ds) (h : ci ρ μ = .ok j μ1) (hs : ds.length ≤ sizeLine) (I : Nat → List D → Mem → Prop)
    (step : ∀ i d acc μ, ds[i]? = some d → μ.length = μ1.length → I i acc μ → ∃ y μ', lcF own g tt te ρ d (μ ++ [.lst acc]) = .ok y (μ' ++ [.lst acc]) ∧ μ'.length = μ1.length ∧ I (i + 1) (acc ++ y.toList) μ') (h0 : I 0 [] μ1) :
    ∃ acc' μ', cLc ci own g tt te ρ μ = .ok (.fl acc') μ' ∧ μ'.length = μ1.length ∧ acc'.length ≤ ds.length ∧ I ds.length acc' μ' := by
  unfold cLc
  rw [h]
  simp only [Rs.bind, hj.len]
  exact lcL_post hj I step ds.length 0 [] μ1 (by omega) (by simp) hs rfl h0
/-- .. that keeps the memory -/
theorem cLc_map {ci : Vr → Mem → Rs Itm} {own : List Nat} {g : GC} {tt : TC} {te : EC} {ρ : Vr} {μ μ1 : Mem} {j : Itm} {ds : List D} (f : D → Option D) (hj : ItmIs j ds) (h : ci ρ μ = .ok j μ1) (hs : ds.length ≤ sizeLine)
    (step : ∀ d ∈ ds, ∀ μ', (∀ i < μ1.length, μ'[i]? = μ1[i]?) → lcF own g tt te ρ d μ' = .ok (f d) μ') : cLc ci own g tt te ρ μ = .ok (.fl (ds.filterMap f)) μ1 := by
  obtain ⟨acc, μ', q, hl, _, h1, h2⟩ := cLc_post (own := own) (g := g) (tt := tt) (te := te) hj h hs (fun i acc μ => μ = μ1 ∧ acc = (ds.take i).filterMap f) (fun i d acc μ e hm hI => by
    obtain ⟨rfl, rfl⟩ := hI
    refine ⟨f d, μ, step d (List.mem_of_getElem? e) _ (fun i hi => by rw [List.getElem?_append_left hi]), rfl, rfl, ?_⟩
    rw [List.take_add_one, e, List.filterMap_append]
    cases hf : f d <;> simp [hf]) ⟨rfl, by simp⟩
  subst h1
  rw [q, h2, List.take_length]
theorem cLc_map1 {ci : Vr → Mem → Rs Itm} {own : List Nat} {g : GC} {tt : TC} {te : EC} {ρ : Vr} {μ μ1 : Mem} {j : Itm} {ds : List D} (f : D → D) (hj : ItmIs j ds) (h : ci ρ μ = .ok j μ1) (hs : ds.length ≤ sizeLine)
    (step : ∀ d ∈ ds, ∀ μ', (∀ i < μ1.length, μ'[i]? = μ1[i]?) → lcF own g tt te ρ d μ' = .ok (some (f d)) μ') : cLc ci own g tt te ρ μ = .ok (.fl (ds.map f)) μ1 := by
  rw [cLc_map (fun d => some (f d)) hj h hs step]
  rw [List.filterMap_eq_map']
theorem take_all {μ : Mem} : μ.take μ.length = μ := List.take_length
theorem nat_sizeLine {n : Nat} (h : n ≤ 1000000) : n ≤ sizeLine := Nat.le_trans h (by decide)
/-- the cells that were there, whatever came behind -/
theorem expo_ok {k : Nat} {x : D} {μ : Mem} : expo k (.rt (.d x) μ) = .ok (.d x) (μ.take k) := rfl
end Em
set_option maxRecDepth 100000
namespace Em
open PySem PySem.Spec PyProof.Rows L2
theorem cV_ (i : Nat) (ρ : Vr) (μ : Mem) : cV i ρ μ = (match ρ[i]? with
  | some (some r) => .ok r μ
  | _ => .no) := rfl
theorem cK_ (x : D) (z0 : Vr) (μ : Mem) : cK x z0 μ = (.ok (.d x) μ) := rfl
theorem cBin_ (o : R → R → Mem → Rs R) (ca cb : EC) (ρ : Vr) (μ : Mem) : cBin o ca cb ρ μ = ((ca ρ μ).bind fun ra μ1 => (cb ρ μ1).bind fun rb μ2 => o ra rb μ2) := rfl
theorem cCall_ (o : List R → Mem → Rs R) (ca : AC) (ρ : Vr) (μ : Mem) : cCall o ca ρ μ = ((ca ρ μ).bind o) := rfl
theorem cCons_ (c : EC) (cs : AC) (ρ : Vr) (μ : Mem) : cCons c cs ρ μ = ((c ρ μ).bind fun r μ1 => (cs ρ μ1).bind fun rs μ2 => .ok (r :: rs) μ2) := rfl
theorem cNil_  (z0 : Vr) (μ : Mem) : cNil  z0 μ = (.ok [] μ) := rfl
theorem cH_ (c : EC) (ρ : Vr) (μ : Mem) : cH c ρ μ = ((c ρ μ).bind hold) := rfl
theorem cD_ (c : EC) (ρ : Vr) (μ : Mem) : cD c ρ μ = ((c ρ μ).bind toD) := rfl
theorem cA_ (c : EC) (ρ : Vr) (μ : Mem) : cA c ρ μ = ((c ρ μ).bind adopt) := rfl
theorem cT_ (c : EC) (ρ : Vr) (μ : Mem) : cT c ρ μ = ((c ρ μ).bind bT) := rfl
theorem cIf_ (t : TC) (a b : EC) (ρ : Vr) (μ : Mem) : cIf t a b ρ μ = ((t ρ μ).bind fun k μ1 => if k = true then a ρ μ1 else b ρ μ1) := rfl
theorem cAndT_ (a b : TC) (ρ : Vr) (μ : Mem) : cAndT a b ρ μ = ((a ρ μ).bind fun k μ1 => if k = true then b ρ μ1 else .ok false μ1) := rfl
theorem cOrT_ (a b : TC) (ρ : Vr) (μ : Mem) : cOrT a b ρ μ = ((a ρ μ).bind fun k μ1 => if k = true then .ok true μ1 else b ρ μ1) := rfl
theorem cNotT_ (a : TC) (ρ : Vr) (μ : Mem) : cNotT a ρ μ = ((a ρ μ).bind fun k μ1 => .ok (!k) μ1) := rfl
theorem cAndV_ (a b : EC) (ρ : Vr) (μ : Mem) : cAndV a b ρ μ = ((a ρ μ).bind fun r μ1 => (bT r μ1).bind fun k μ2 => if k = true then b ρ μ2 else .ok (.d (.bool false)) μ2) := rfl
theorem cOrV_ (a b : EC) (ρ : Vr) (μ : Mem) : cOrV a b ρ μ = ((a ρ μ).bind fun r μ1 => (bT r μ1).bind fun k μ2 => if k = true then .ok (.d (.bool true)) μ2 else b ρ μ2) := rfl
theorem cNotV_ (a : EC) (ρ : Vr) (μ : Mem) : cNotV a ρ μ = ((a ρ μ).bind fun r μ1 => (bT r μ1).bind fun k μ2 => .ok (.d (.bool (!k))) μ2) := rfl
theorem cChain_ (o o' : R → R → Mem → Rs R) (a b c : EC) (ρ : Vr) (μ : Mem) : cChain o o' a b c ρ μ = ((a ρ μ).bind fun ra μ1 => (b ρ μ1).bind fun rb μ2 => (o ra rb μ2).bind fun r μ3 => (bT r μ3).bind fun k μ4 =>
  if k = true then (c ρ μ4).bind fun rc μ5 => o' rb rc μ5 else .ok (.d (.bool false)) μ4) := rfl
theorem cSl_ (c : EC) (l h : PC') (ρ : Vr) (μ : Mem) : cSl c l h ρ μ = ((c ρ μ).bind fun ra μ1 => (l ρ μ1).bind fun lo μ2 => (h ρ μ2).bind fun hi μ3 => opSl ra lo hi μ3) := rfl
theorem cPart_ (c : EC) (ρ : Vr) (μ : Mem) : cPart c ρ μ = ((c ρ μ).bind iP) := rfl
theorem cNoPart_  (z0 : Vr) (μ : Mem) : cNoPart  z0 μ = (.ok none μ) := rfl
theorem cMt_ (Ty : String) (o : R → List R → Mem → Rs R) (c : EC) (ca : AC) (ρ : Vr) (μ : Mem) : cMt Ty o c ca ρ μ = ((c ρ μ).bind fun r μ1 => if isTy Ty r μ1 = true then (ca ρ μ1).bind fun rs μ2 => o r rs μ2 else .no) := rfl
theorem cIsi_ (Ty : String) (c : EC) (ρ : Vr) (μ : Mem) : cIsi Ty c ρ μ = ((c ρ μ).bind fun r μ1 => match tyName r μ1 with
  | some t => match kitB t Ty with
    | some b => .ok (.d (.bool b)) μ1
    | none => .no
  | none => .no) := rfl
theorem cNeg_ (c : EC) (ρ : Vr) (μ : Mem) : cNeg c ρ μ = ((c ρ μ).bind fun r μ1 => match r with
  | .d (.int i) => .ok (.d (.int (-i))) μ1
  | _ => .no) := rfl
theorem cFn_ (n : Nat) (φ : Fn) (ca : AC) (ρ : Vr) (μ : Mem) : cFn n φ ca ρ μ = ((ca ρ μ).bind fun rs μ1 => if rs.length = n then φ rs μ1 else .no) := rfl
theorem sNil_  (ρ : Vr) (μ : Mem) : sNil  ρ μ = (.nx ρ μ) := rfl
theorem sCons_ (a b : SC) (ρ : Vr) (μ : Mem) : sCons a b ρ μ = (match a ρ μ with
  | .nx ρ' μ' => b ρ' μ'
  | o => o) := rfl
theorem sIf_ (t : TC) (a b : SC) (ρ : Vr) (μ : Mem) : sIf t a b ρ μ = ((t ρ μ).thenS ρ fun k μ1 => if k = true then a ρ μ1 else b ρ μ1) := rfl
theorem sSet_ (i : Nat) (c : EC) (ρ : Vr) (μ : Mem) : sSet i c ρ μ = ((c ρ μ).thenS ρ fun r μ1 => .nx (ρ.set i (some r)) μ1) := rfl
theorem sPar_ (i j : Nat) (ca cb : EC) (ρ : Vr) (μ : Mem) : sPar i j ca cb ρ μ = ((ca ρ μ).thenS ρ fun r μ1 => (cb ρ μ1).thenS ρ fun r' μ2 => .nx ((ρ.set i (some r)).set j (some r')) μ2) := rfl
theorem sExpr_ (c : EC) (ρ : Vr) (μ : Mem) : sExpr c ρ μ = ((c ρ μ).thenS ρ fun _ μ1 => .nx ρ μ1) := rfl
theorem sRet_ (c : EC) (ρ : Vr) (μ : Mem) : sRet c ρ μ = ((c ρ μ).thenS ρ fun r μ1 => .rt r μ1) := rfl
theorem sRetN_  (z0 : Vr) (μ : Mem) : sRetN  z0 μ = (.rt (.d .none) μ) := rfl
theorem sRaise_ (x : Str) (ρ : Vr) (μ : Mem) : sRaise x ρ μ = (.ex ⟨x, none⟩ ρ μ) := rfl
theorem sBrk_  (ρ : Vr) (μ : Mem) : sBrk  ρ μ = (.bk ρ μ) := rfl
theorem sCnt_  (ρ : Vr) (μ : Mem) : sCnt  ρ μ = (.ct ρ μ) := rfl
theorem sStore_ (co ci ce : EC) (ρ : Vr) (μ : Mem) : sStore co ci ce ρ μ = ((cD ce ρ μ).thenS ρ fun rx μ1 => (co ρ μ1).thenS ρ fun ro μ2 => (ci ρ μ2).thenS ρ fun ri μ3 => match rx with
  | .d x => match opStore ro ri x μ3 with
    | some μ4 => .nx ρ μ4
    | none => .no
  | _ => .no) := rfl
theorem fnOf_ (N : Nat) (body : SC) (ws : List R) (μ : Mem) : fnOf N body ws μ = (expo μ.length (body (ws.map some ++ List.replicate (N - ws.length) none) μ)) := rfl
theorem iAny_ (c : EC) (ρ : Vr) (μ : Mem) : iAny c ρ μ = ((c ρ μ).bind itmOf) := rfl
theorem iR1_ (c : EC) (ρ : Vr) (μ : Mem) : iR1 c ρ μ = ((c ρ μ).bind fun r μ1 => match r with
  | .d (.int j) => if -(2 ^ 62) ≤ j ∧ j < 2 ^ 62 then .ok (.rng 0 1 j.toNat) μ1 else .no
  | _ => .no) := rfl
theorem iR2_ (ca : AC) (ρ : Vr) (μ : Mem) : iR2 ca ρ μ = ((ca ρ μ).bind fun rs μ1 => match rs with
  | [.d (.int i), .d (.int j)] => if -(2 ^ 62) ≤ i ∧ i < 2 ^ 62 ∧ -(2 ^ 62) ≤ j ∧ j < 2 ^ 62 then .ok (.rng i 1 (j - i).toNat) μ1 else .no
  | _ => .no) := rfl
theorem iEn_ (c : EC) (ρ : Vr) (μ : Mem) : iEn c ρ μ = ((c ρ μ).bind enmOf) := rfl
theorem gN_ (i : Nat) (d : D) (ρ : Vr) : gN i d ρ = (some (ρ.set i (some (.d d)))) := rfl
theorem gT_ (gs : List D → Vr → Option Vr) (d : D) (ρ : Vr) : gT gs d ρ = (match d with
  | .tuple ds => gs ds ρ
  | _ => none) := rfl
theorem gsN_  (ds : List D) (ρ : Vr) : gsN  ds ρ = (match ds with
  | [] => some ρ
  | _ => none) := rfl
theorem gsC_ (g : GC) (gs : List D → Vr → Option Vr) (ds : List D) (ρ : Vr) : gsC g gs ds ρ = (match ds with
  | d :: ds => match g d ρ with
    | some ρ' => gs ds ρ'
    | none => none
  | [] => none) := rfl
theorem stepS_ (g : GC) (b : SC) (d : D) (ρ : Vr) (μ : Mem) : stepS g b d ρ μ = (match g d ρ with
  | some ρ' => b ρ' μ
  | none => .no) := rfl
theorem cYes_  (z0 : Vr) (μ : Mem) : cYes  z0 μ = (.ok true μ) := rfl
theorem lcF_ (own : List Nat) (g : GC) (tt : TC) (te : EC) (ρ : Vr) (d : D) (μ : Mem) : lcF own g tt te ρ d μ = (match g d (wipeR ρ own) with
  | some ρ' => match tt ρ' μ with
    | .ok true μ2 => match cD te ρ' μ2 with
      | .ok (.d x) μ3 => .ok (some x) μ3
      | _ => .no
    | .ok false μ2 => .ok none μ2
    | _ => .no
  | none => .no) := rfl
theorem get_set {μ : Mem} {n : Nat} {c c' : Cell} (h : μ[n]? = some c) : (μ.set n c')[n]? = some c' := List.getElem?_set_self (List.getElem?_eq_some_iff.mp h).1
theorem ix0 (w : D) (r : List D) : L2.atI (w :: r) 0 = some w := by simp [L2.atI, L2.ixN]
theorem atI_at {ds : List D} {k : Nat} {d : D} (h : ds[k]? = some d) : L2.atI ds (k : Nat) = some d := by
  have hk := (List.getElem?_eq_some_iff.mp h).1
  unfold L2.atI L2.ixN
  rw [if_pos (by omega), if_pos (by omega)]
  simpa using h
theorem atI_lastD {ds : List D} {d : D} : L2.atI (ds ++ [d]) (-1) = some d := by
  unfold L2.atI L2.ixN
  rw [if_neg (by decide), if_pos (by simp; omega)]
  have e : (-1 + (((ds ++ [d]).length : Nat) : Int)).toNat = ds.length := by simp; omega
  simp only [Option.bind_some, e]
  simp
theorem q40 : L2.ixN 4 0 = some 0 := rfl
theorem q41 : L2.ixN 4 1 = some 1 := rfl
theorem q42 : L2.ixN 4 2 = some 2 := rfl
theorem q43 : L2.ixN 4 3 = some 3 := rfl
theorem ix41 (w x y z : D) : L2.atI [w, x, y, z] 1 = some x := rfl
theorem ix42 (w x y z : D) : L2.atI [w, x, y, z] 2 = some y := rfl
theorem ix43 (w x y z : D) : L2.atI [w, x, y, z] 3 = some z := rfl
theorem ix11 (x y : D) (r : List D) : L2.atI (x :: y :: r) 1 = some y := by
  unfold L2.atI L2.ixN
  rw [if_pos (by decide), if_pos (by simp; omega)]
  rfl
end Em
set_option maxRecDepth 100000
namespace Em
open PySem PySem.Spec PyProof.Rows L2
theorem cutD_take {α : Type} (xs : List α) (k : Nat) : Em.cutD xs none (some (k : Int)) = xs.take k := by
  unfold Em.cutD
  rw [HT.sIx_none, HT.sIx_nat, List.drop_zero, Nat.sub_zero]
  by_cases h : k ≤ xs.length
  · rw [Nat.min_eq_left h]
  · rw [Nat.min_eq_right (by omega), List.take_length, List.take_of_length_le (by omega)]
theorem cutD_drop {α : Type} (xs : List α) (k : Nat) : Em.cutD xs (some (k : Int)) none = xs.drop k := by
  unfold Em.cutD
  rw [HT.sIx_none, HT.sIx_nat]
  by_cases h : k ≤ xs.length
  · rw [Nat.min_eq_left h, List.take_of_length_le (by simp)]
  · rw [Nat.min_eq_right (by omega), List.drop_eq_nil_of_le (Nat.le_refl _), List.drop_eq_nil_of_le (by omega)]; simp
theorem cutD_init {α : Type} (xs : List α) : Em.cutD xs none (some (-1)) = xs.dropLast := by
  unfold Em.cutD
  rw [HT.sIx_none]
  have e : HT.sIx xs.length xs.length (some (-1)) = xs.length - 1 := by
    show (if ((-1 : Int)) < 0 then (((-1 : Int)) + (xs.length : Int)).toNat else min ((-1 : Int)).toNat xs.length) = _
    rw [if_pos (by decide)]
    omega
  rw [e, List.drop_zero, Nat.sub_zero, List.dropLast_eq_take]
theorem cutD_mem {α : Type} {xs : List α} {lo hi : Option Int} {x : α} (h : x ∈ Em.cutD xs lo hi) : x ∈ xs := by
  unfold Em.cutD at h
  exact List.mem_of_mem_drop (List.mem_of_mem_take h)
theorem set_app {μ : Mem} {n : Nat} {c d : Cell} (h : n < μ.length) : (μ ++ [d]).set n c = μ.set n c ++ [d] := List.set_append_left _ _ h
theorem get_app {μ : Mem} {n : Nat} {c d : Cell} (h : μ[n]? = some c) : (μ ++ [d])[n]? = some c := by
  rw [List.getElem?_append_left (List.getElem?_eq_some_iff.mp h).1]; exact h
theorem take_set {μ : Mem} {n : Nat} {c : Cell} : List.take μ.length (μ.set n c) = μ.set n c := List.take_of_length_le (by rw [List.length_set]; exact Nat.le_refl _)
theorem take_app {μ t : Mem} : List.take μ.length (μ ++ t) = μ := List.take_left
theorem get_lt {μ : Mem} {n : Nat} {c : Cell} (h : μ[n]? = some c) : n < μ.length := (List.getElem?_eq_some_iff.mp h).1
theorem kb_NoneType_int : kitB "NoneType" "int" = some false := by decide +kernel
theorem kb_NoneType_bool : kitB "NoneType" "bool" = some false := by decide +kernel
theorem kb_NoneType_str : kitB "NoneType" "str" = some false := by decide +kernel
theorem kb_NoneType_tuple : kitB "NoneType" "tuple" = some false := by decide +kernel
theorem kb_NoneType_list : kitB "NoneType" "list" = some false := by decide +kernel
theorem kb_NoneType_dict : kitB "NoneType" "dict" = some false := by decide +kernel
theorem kb_bool_int : kitB "bool" "int" = some true := by decide +kernel
theorem kb_bool_bool : kitB "bool" "bool" = some true := by decide +kernel
theorem kb_bool_str : kitB "bool" "str" = some false := by decide +kernel
theorem kb_bool_tuple : kitB "bool" "tuple" = some false := by decide +kernel
theorem kb_bool_list : kitB "bool" "list" = some false := by decide +kernel
theorem kb_bool_dict : kitB "bool" "dict" = some false := by decide +kernel
theorem kb_int_int : kitB "int" "int" = some true := by decide +kernel
theorem kb_int_bool : kitB "int" "bool" = some false := by decide +kernel
theorem kb_int_str : kitB "int" "str" = some false := by decide +kernel
theorem kb_int_tuple : kitB "int" "tuple" = some false := by decide +kernel
theorem kb_int_list : kitB "int" "list" = some false := by decide +kernel
theorem kb_int_dict : kitB "int" "dict" = some false := by decide +kernel
theorem kb_str_int : kitB "str" "int" = some false := by decide +kernel
theorem kb_str_bool : kitB "str" "bool" = some false := by decide +kernel
theorem kb_str_str : kitB "str" "str" = some true := by decide +kernel
theorem kb_str_tuple : kitB "str" "tuple" = some false := by decide +kernel
theorem kb_str_list : kitB "str" "list" = some false := by decide +kernel
theorem kb_str_dict : kitB "str" "dict" = some false := by decide +kernel
theorem kb_list_int : kitB "list" "int" = some false := by decide +kernel
theorem kb_list_bool : kitB "list" "bool" = some false := by decide +kernel
theorem kb_list_str : kitB "list" "str" = some false := by decide +kernel
theorem kb_list_tuple : kitB "list" "tuple" = some false := by decide +kernel
theorem kb_list_list : kitB "list" "list" = some true := by decide +kernel
theorem kb_list_dict : kitB "list" "dict" = some false := by decide +kernel
theorem kb_tuple_int : kitB "tuple" "int" = some false := by decide +kernel
theorem kb_tuple_bool : kitB "tuple" "bool" = some false := by decide +kernel
theorem kb_tuple_str : kitB "tuple" "str" = some false := by decide +kernel
theorem kb_tuple_tuple : kitB "tuple" "tuple" = some true := by decide +kernel
theorem kb_tuple_list : kitB "tuple" "list" = some false := by decide +kernel
theorem kb_tuple_dict : kitB "tuple" "dict" = some false := by decide +kernel
theorem kb_dict_int : kitB "dict" "int" = some false := by decide +kernel
theorem kb_dict_bool : kitB "dict" "bool" = some false := by decide +kernel
theorem kb_dict_str : kitB "dict" "str" = some false := by decide +kernel
theorem kb_dict_tuple : kitB "dict" "tuple" = some false := by decide +kernel
theorem kb_dict_list : kitB "dict" "list" = some false := by decide +kernel
theorem kb_dict_dict : kitB "dict" "dict" = some true := by decide +kernel
theorem kD_nn : kinD .none .none = true := rfl
theorem kD_ii (a : Int) (b : Int) : kinD (.int a) (.int b) = true := rfl
theorem kD_bb (a : Bool) (b : Bool) : kinD (.bool a) (.bool b) = true := rfl
theorem kD_ss (a : Str) (b : Str) : kinD (.str a) (.str b) = true := rfl
theorem kD_ni (b : Int) : kinD .none (.int b) = true := rfl
theorem kD_nb (b : Bool) : kinD .none (.bool b) = true := rfl
theorem kD_ns (b : Str) : kinD .none (.str b) = true := rfl
theorem kD_in (a : Int) : kinD (.int a) .none = true := rfl
theorem kD_bn (a : Bool) : kinD (.bool a) .none = true := rfl
theorem kD_sn (a : Str) : kinD (.str a) .none = true := rfl
theorem kD_is (a : Int) (b : Str) : kinD (.int a) (.str b) = true := rfl
theorem kD_si (a : Str) (b : Int) : kinD (.str a) (.int b) = true := rfl
theorem kD_bs (a : Bool) (b : Str) : kinD (.bool a) (.str b) = true := rfl
theorem kD_sb (a : Str) (b : Bool) : kinD (.str a) (.bool b) = true := rfl
theorem kD_tuple1 (a : List D) (x : D) : kinD (.tuple a) x = false := by cases x <;> rfl
theorem kD_tuple2 (a : List D) (x : D) : kinD x (.tuple a) = false := by cases x <;> rfl
theorem kD_list1 (a : List D) (x : D) : kinD (.list a) x = false := by cases x <;> rfl
theorem kD_list2 (a : List D) (x : D) : kinD x (.list a) = false := by cases x <;> rfl
theorem kD_ib (a : Int) (b : Bool) : kinD (.int a) (.bool b) = false := rfl
theorem kD_bi (a : Bool) (b : Int) : kinD (.bool a) (.int b) = false := rfl
/-- whether it's a whole number, no truth value -/
def isIntD : D → Bool
  | .int _ => true
  | _ => false
def noDict : D → Bool
  | .dict _ => false
  | _ => true
def withinD (lo hi : Int) : D → Bool
  | .int i => decide (lo ≤ i ∧ i ≤ hi)
  | _ => false
def sizedD (lo hi : Int) : D → Bool
  | .tuple xs => decide (lo ≤ ((xs.length : Nat) : Int) ∧ ((xs.length : Nat) : Int) ≤ hi)
  | _ => false
end Em
set_option maxRecDepth 100000
namespace Em
open PySem PySem.Spec PyProof.Rows L2
section
variable {X : Cx} {T : Tb} {pos : Pos}
/-! ### any target, data -/
def sAsg (g : GC) (c : EC) : SC := fun ρ μ => (cD c ρ μ).thenS ρ fun r μ1 => match r with
  | .d x => match g x ρ with
    | some ρ' => .nx ρ' μ1
    | none => .no
  | _ => .no
theorem ds_asg {tg e : Expr} {sl : List Nat} {g : GC} {c : EC} (h : DE X T e c) (hg : DG X T tg sl g) (hs : swapsWithSole [tg] e pos.line X.env = pure false := by rfl) (hw : swappedStores [tg] e X.env = pure none := by rfl)
    (h1 : (assignEach [tg] X.env).map (·.2) = [assign tg X.env] := by rfl) : DS X T (.Assign [tg] e pos) (sAsg g c) := by
  refine ⟨fun {ρ μ σ H F as} m en {D Wx} tk p => vs_of (ps_asg pe_self pg_self hs hw h1) (h.data.run m en tk (w_then en p fun r μ1 p1 v H1 F1 as1 e1 m1 r1 => ?_))⟩
  cases r with
  | d x =>
    simp only at p1
    cases hgx : g x ρ with
    | none => rw [hgx] at p1; exact p1.elim
    | some ρ' =>
      rw [hgx] at p1
      exact hg.run m1 (en.mono e1) r1 hgx fun σ' en' _ _ => p1 σ' H1 F1 as1 e1 m1 en'
  | _ => exact p1.elim
/-! ### is, of truth values -/
def opIsB (neg : Bool) (ra rb : R) (μ : Mem) : Rs R := match ra, rb with
  | .d (.bool a), .d (.bool b) => .ok (.d (.bool (if neg = true then !decide (a = b) else decide (a = b)))) μ
  | _, _ => .no
theorem isB_cases {ra rb : R} {μ : Mem} {neg : Bool} {P : Rs R → Prop} (hno : ¬ P .no) (p : P (opIsB neg ra rb μ)) : ∃ a b, ra = .d (.bool a) ∧ rb = .d (.bool b) ∧ P (.ok (.d (.bool (if neg = true then !decide (a = b) else decide (a = b)))) μ) := by
  unfold opIsB at p
  split at p
  · exact ⟨_, _, rfl, rfl, p⟩
  · exact (hno p).elim
theorem od_isB : OpD X T (compareOp .Is) (opIsB false) := by
  refine ⟨fun {μ H F as ra rb x y} m r1 r2 {σ Q Wx} p => ?_⟩
  obtain ⟨a, b, rfl, rfl, p'⟩ := isB_cases (P := PostE X.K X.mg T σ F as Q Wx) (fun z => z) p
  cases r1; cases r2
  exact ⟨_, op_is_bl, a, b, rfl, rfl, p' _ H F as (Ext.refl _ _) m (.bl _)⟩
theorem od_isNotB : OpD X T (compareOp .IsNot) (opIsB true) := by
  refine ⟨fun {μ H F as ra rb x y} m r1 r2 {σ Q Wx} p => ?_⟩
  obtain ⟨a, b, rfl, rfl, p'⟩ := isB_cases (P := PostE X.K X.mg T σ F as Q Wx) (fun z => z) p
  cases r1; cases r2
  exact ⟨_, op_isnot_bl, a, b, rfl, rfl, p' _ H F as (Ext.refl _ _) m (.bl _)⟩
/-! ### max, min of two numbers -/
def fMax2 (rs : List R) (μ : Mem) : Rs R := match rs with
  | [.d (.int i), .d (.int j)] => .ok (.d (.int (if j > i then j else i))) μ
  | _ => .no
def fMin2 (rs : List R) (μ : Mem) : Rs R := match rs with
  | [.d (.int i), .d (.int j)] => .ok (.d (.int (if j < i then j else i))) μ
  | _ => .no
theorem cd_max2 (hc : X.calm = true := by rfl) : CallD X T (.builtin "max") fMax2 := by
  refine ⟨fun {μ H F as rs xs} m rel {σ Q Wx} p => ?_⟩
  unfold fMax2 at p
  split at p
  · rename_i i j
    have e := relws2 rel
    subst e
    exact ⟨_, call_max2 hc, i, j, rfl, p _ H F as (Ext.refl _ _) m (.int _)⟩
  · exact p.elim
theorem cd_min2 (hc : X.calm = true := by rfl) : CallD X T (.builtin "min") fMin2 := by
  refine ⟨fun {μ H F as rs xs} m rel {σ Q Wx} p => ?_⟩
  unfold fMin2 at p
  split at p
  · rename_i i j
    have e := relws2 rel
    subst e
    exact ⟨_, call_min2 hc, i, j, rfl, p _ H F as (Ext.refl _ _) m (.int _)⟩
  · exact p.elim
/-! ### == with a bound on the units alone -/
theorem od_eqU (hu : X.A.units + 64 < cLine) : OpD X T (compareOp .Eq) (opEq false) := by
  refine ⟨fun {μ H F as ra rb x y} m r1 r2 {σ Q Wx} p => ?_⟩
  unfold opEq at p
  split at p
  · rename_i d e h1 h2
    have d1 := see_Dq m r1 h1
    have d2 := see_Dq m r2 h2
    split at p
    · rename_i hc
      have q := p (.bl (PyData.eqv d e)) H F as (Ext.refl _ _) m (.bl _)
      by_cases hk : kinD d e = true
      · obtain ⟨s1, s2⟩ := kin_scal d1 d2 hk
        exact ⟨_, op_eq, s1, by rw [s2]; exact q⟩
      · obtain ⟨s1, s2⟩ := hc.resolve_left hk
        exact ⟨_, op_eqD hu, d, e, d1.dp, d2.dp, s1, s2, q⟩
    · exact p.elim
  · exact p.elim
theorem od_neU (hu : X.A.units + 64 < cLine) : OpD X T (compareOp .NotEq) (opEq true) := by
  refine ⟨fun {μ H F as ra rb x y} m r1 r2 {σ Q Wx} p => ?_⟩
  unfold opEq at p
  split at p
  · rename_i d e h1 h2
    have d1 := see_Dq m r1 h1
    have d2 := see_Dq m r2 h2
    split at p
    · rename_i hc
      have q := p (.bl (!PyData.eqv d e)) H F as (Ext.refl _ _) m (.bl _)
      by_cases hk : kinD d e = true
      · obtain ⟨s1, s2⟩ := kin_scal d1 d2 hk
        exact ⟨_, op_ne, s1, by rw [s2]; exact q⟩
      · obtain ⟨s1, s2⟩ := hc.resolve_left hk
        exact ⟨_, op_neD hu, d, e, d1.dp, d2.dp, s1, s2, q⟩
    · exact p.elim
  · exact p.elim
/-! ### zip -/
theorem zip_pair {K : PySem.W.Frag} {F1 : Hp} {as1 : List Addr} {μ1 : Mem} {H1 : Hp} (m : Mm K T μ1 H1 F1 as1) {t : Addr} (ht : H1 t = none) {x y : V} {d e : D} (hx : Dq K F1 x d) (hy : Dq K F1 y e) :
    ∃ F2, Ext F1 as1 F2 as1 ∧ Mm K T μ1 (upd H1 t (.tup [x, y])) F2 as1 ∧ Dq K F2 (.ref t) (.tuple [d, e]) := by
  have hF := m.freeF ht
  exact ⟨upd F1 t (.tup [x, y]), Ext.new hF, (m.alloc ht).freeze hF upd_same (m.notin ht) (fun ps z => by cases z), .tup (.inl (.inl upd_same)) (.cons (Dq_mono (same_new hF) hx) (.cons (Dq_mono (same_new hF) hy) .nil))⟩
theorem jrel_zipL {K : PySem.W.Frag} {F : Hp} {as : List Addr} {r r' : R} {a b : Addr} (h : RelW K F as r (.ref a)) (h' : RelW K F as r' (.ref b)) (hl : ∀ (μ1 : Mem) (ds : List D), see r μ1 ≠ some (.tuple ds)) (hl' : ∀ (μ1 : Mem) (ds : List D), see r' μ1 ≠ some (.tuple ds)) : JRel K T F as (.zip r r') (Itz K a b) := by
  intro F1 as1 μ1 H1 e m i
  have key : ∀ {r : R} {a : Addr}, RelW K F as r (.ref a) → (∀ (μ1 : Mem) (ds : List D), see r μ1 ≠ some (.tuple ds)) → ∀ ds, seeL r μ1 = some ds → ∃ vs, SqL K H1 a vs ∧ DqAll K F1 vs ds := fun {r a} h hl ds hd => by
    rcases seeL_cases hd with z | z
    · obtain ⟨b, vs, eb, q1, q2⟩ := see_list m (h.mono e) z
      cases eb
      exact ⟨vs, .inl q1, q2⟩
    · exact absurd z (hl _ _)
  refine ⟨fun hi => ?_, fun d hd => ?_⟩
  · unfold itLen at hi
    cases hs : seeL r μ1 with
    | none => simp [hs] at hi
    | some ds =>
      cases hs' : seeL r' μ1 with
      | none => simp [hs, hs'] at hi
      | some es =>
        simp [hs, hs'] at hi
        obtain ⟨vs, q1, q2⟩ := key h hl ds hs
        obtain ⟨ws, q3, q4⟩ := key h' hl' es hs'
        refine ⟨vs, ws, q1, q3, ?_⟩
        rw [q2.length, q4.length]
        omega
  · unfold itAt at hd
    cases hs : seeL r μ1 with
    | none => simp [hs] at hd
    | some ds =>
      cases hs' : seeL r' μ1 with
      | none => simp [hs, hs'] at hd
      | some es =>
        simp only [hs, hs'] at hd
        cases hdi : ds[i]? with
        | none => simp [hdi] at hd
        | some d0 =>
          cases hei : es[i]? with
          | none => simp [hdi, hei] at hd
          | some e0 =>
            simp only [hdi, hei] at hd
            cases hd
            obtain ⟨vs, q1, q2⟩ := key h hl ds hs
            obtain ⟨ws, q3, q4⟩ := key h' hl' es hs'
            obtain ⟨v, g1, g2⟩ := q2.get hdi
            obtain ⟨w, g3, g4⟩ := q4.get hei
            refine ⟨⟨vs, ws, v, w, q1, q3, g1, g3⟩, fun x H2 y => ?_⟩
            obtain ⟨t, x', y', rfl, ht, rfl, y2, y3⟩ := y
            have e1 : x' = v := Option.some.inj ((y2 vs q1).symm.trans g1)
            have e2 : y' = w := Option.some.inj ((y3 ws q3).symm.trans g3)
            subst e1
            subst e2
            exact zip_pair m ht g2 g4
theorem jrel_zipT {K : PySem.W.Frag} {F : Hp} {as : List Addr} {ds es : List D} {a b : Addr} (h : RelW K F as (.d (.tuple ds)) (.ref a)) (h' : RelW K F as (.d (.tuple es)) (.ref b)) : JRel K T F as (.zip (.d (.tuple ds)) (.d (.tuple es))) (RZ.ItzT K a b) := by
  intro F1 as1 μ1 H1 e m i
  obtain ⟨a', vs, ea, q1, _, q2⟩ := see_tup m (h.mono e) (rfl : see (.d (.tuple ds)) μ1 = some (.tuple ds))
  cases ea
  obtain ⟨b', ws, eb, q3, _, q4⟩ := see_tup m (h'.mono e) (rfl : see (.d (.tuple es)) μ1 = some (.tuple es))
  cases eb
  refine ⟨fun hi => ?_, fun d hd => ?_⟩
  · have : min ds.length es.length = i := by simpa [itLen, seeL, see] using hi
    refine ⟨vs, ws, q1, q3, ?_⟩
    rw [q2.length, q4.length]
    omega
  · have hd' : (match ds[i]?, es[i]? with
      | some x, some y => some (PyData.tuple [x, y])
      | _, _ => none) = some d := hd
    cases hdi : ds[i]? with
    | none => simp [hdi] at hd'
    | some d0 =>
      cases hei : es[i]? with
      | none => simp [hdi, hei] at hd'
      | some e0 =>
        simp only [hdi, hei] at hd'
        cases hd'
        obtain ⟨v, g1, g2⟩ := q2.get hdi
        obtain ⟨w, g3, g4⟩ := q4.get hei
        refine ⟨⟨vs, ws, v, w, q1, q3, g1, g3⟩, fun x H2 y => ?_⟩
        obtain ⟨t, x', y', rfl, ht, rfl, y2, y3⟩ := y
        have e1 : x' = v := Option.some.inj ((y2 vs q1).symm.trans g1)
        have e2 : y' = w := Option.some.inj ((y3 ws q3).symm.trans g3)
        subst e1
        subst e2
        exact zip_pair m ht g2 g4
/-- a list, wherever it stands -/
def isL : R → Mem → Bool
  | .d (.list _), _ => true
  | .c n, μ => match μ[n]? with
    | some (.dk _) => false
    | _ => true
  | _, _ => false
def zipOf (rs : List R) (μ : Mem) : Rs Itm := match rs with
  | [.d (.tuple ds), .d (.tuple es)] => .ok (.zip (.d (.tuple ds)) (.d (.tuple es))) μ
  | [a, b] => if isL a μ = true ∧ isL b μ = true then .ok (.zip a b) μ else .no
  | _ => .no
def iZp (ca : AC) : Vr → Mem → Rs Itm := fun ρ μ => (ca ρ μ).bind zipOf
theorem isL_list {r : R} {μ : Mem} {v : V} {H F : Hp} {as : List Addr} (m : Mm X.K T μ H F as) (rel : RelW X.K F as r v) (h : isL r μ = true) : (∃ a vs, v = .ref a ∧ SqL X.K H a vs) ∧ ∀ (μ1 : Mem) (ds : List D), see r μ1 ≠ some (.tuple ds) := by
  cases r with
  | d x =>
    cases x with
    | list ds =>
      obtain ⟨a, vs, rfl, hL, hd⟩ := see_list m rel (rfl : see (.d (.list ds)) μ = some (.list ds))
      exact ⟨⟨a, vs, rfl, .inl hL⟩, fun μ1 ds' z => by cases z⟩
    | _ => cases h
  | c n =>
    refine ⟨?_, fun μ1 ds => see_c_tup⟩
    have p : (fun q : Rs Unit => q = .ok () μ) (match μ[n]? with
      | some (.dk _) => .no
      | _ => .ok () μ) := by
      show (match μ[n]? with
      | some (.dk _) => Rs.no
      | _ => .ok () μ) = .ok () μ
      have h' : (match μ[n]? with | some (.dk _) => false | _ => true) = true := h
      split at h' <;> simp_all
    obtain ⟨a, vs, rfl, hL, _⟩ := c_list (q := (.ok () μ : Rs Unit)) (P := fun q => q = .ok () μ) (fun z => by cases z) m rel p
    exact ⟨a, vs, rfl, hL⟩
  | fl ds => cases h
  | fk ds => cases h
  | o b => cases h
theorem di_zip {elts : List Expr} {kk : Nat} {tpos : Pos} {a b : Expr} {ca : AC} {p : Pos} (hm : X.mg "zip" = none) (h : DA X T [a, b] ca) (hg : Gl X "zip" := by rfl) (hs : starEach [a, b] X.env = (false, eval a X.env) :: starEach [b] X.env := by rfl) (hpl : (backTo pos (starEach [b] X.env)).any (·.1) = false := by rfl) :
    DI X T (.Tuple elts kk tpos) (.Call (.Name "zip" p) [a, b] [] pos) (iZp ca) := by
  refine ⟨fun {ρ μ σ H F as} m en {Rq Wx} tk pp => vi_of (RZ.pi_zipA hg hm pa_self hs hpl) ?_⟩
  refine h.run m en tk (ai_bind pp fun rs μ' p' vs H' F' as' e m' rel => ?_)
  unfold zipOf at p'
  split at p'
  · rename_i ds es
    obtain ⟨v, w, rfl, r1, r2⟩ := relws2' rel
    obtain ⟨a', xs, rfl, q1, _, _⟩ := see_tup m' r1 (rfl : see (.d (.tuple ds)) μ' = some (.tuple ds))
    obtain ⟨b', ys, rfl, q3, _, _⟩ := see_tup m' r2 (rfl : see (.d (.tuple es)) μ' = some (.tuple es))
    exact ⟨a', b', xs, ys, rfl, .inr ⟨q1, q3, p' _ H' F' as' e m' (jrel_zipT r1 r2)⟩⟩
  · rename_i ra rb _
    split at p'
    · rename_i hc
      obtain ⟨v, w, rfl, r1, r2⟩ := relws2' rel
      obtain ⟨⟨a', xs, rfl, q1⟩, n1⟩ := isL_list m' r1 hc.1
      obtain ⟨⟨b', ys, rfl, q2⟩, n2⟩ := isL_list m' r2 hc.2
      exact ⟨a', b', xs, ys, rfl, .inl ⟨q1, q2, p' _ H' F' as' e m' (jrel_zipL r1 r2 n1 n2)⟩⟩
    · exact p'.elim
  · exact p'.elim
/-! ### a tuple so many times -/
def opRepT (ra rb : R) (μ : Mem) : Rs R := match ra, rb with
  | .d (.tuple xs), .d (.int k) => if xs ≠ [] ∧ 2 ≤ k ∧ k ≤ 1000 ∧ xs.length ≤ 1000 then .ok (.d (.tuple (List.replicate k.toNat xs).flatten)) μ else .no
  | _, _ => .no
theorem od_repT : OpD X T (binaryOp .Mult) opRepT := by
  refine ⟨fun {μ H F as ra rb x y} m r1 r2 {σ Q Wx} p => ?_⟩
  unfold opRepT at p
  split at p
  · rename_i xs k
    split at p
    · rename_i hc
      obtain ⟨a, vs, rfl, q1, _, q2⟩ := see_tup m r1 (rfl : see (.d (.tuple xs)) μ = some (.tuple xs))
      obtain rfl := see_int r2 (rfl : see (.d (.int k)) μ = some (.int k))
      refine ⟨_, op_repT, a, k, vs, rfl, rfl, q1, fun z => hc.1 (by subst z; cases q2; rfl), hc.2.1, hc.2.2.1, by rw [q2.length]; exact hc.2.2.2, fun q hq => ?_⟩
      have hF := m.freeF hq
      exact p _ _ _ as (Ext.new hF) ((m.alloc hq).freeze hF upd_same (m.notin hq) (fun ps z => by cases z)) (.tup (.inl (.inl upd_same)) (DqAll_mono (same_new hF) (rep_all q2 _)))
    · exact p.elim
  · exact p.elim
/-! ### list.count of truth values, list.index of what is flat -/
def mCountB (r : R) (rs : List R) (μ : Mem) : Rs R := match see r μ, rs with
  | some (.list ds), [.d (.bool b)] => match boolsOf ds with
    | some bs => .ok (.d (.int ((bs.count b : Nat) : Int))) μ
    | none => .no
  | _, _ => .no
end
end Em
set_option maxRecDepth 100000
namespace Em
open PySem PySem.Spec PyProof.Rows L2
def eqb (b : Bool) (v : Value) : Bool := match v with
  | .bool c => c == b
  | _ => false
theorem eqb_vals {b : Bool} : ∀ {us : List Value} {bs : List Bool}, Vals (bs.map V.bl) us → (∀ u ∈ us, ∃ c, u = .bool c) ∧ us.countP (eqb b) = bs.count b
  | us, [], h => by cases h; exact ⟨fun u hu => (by cases hu), rfl⟩
  | us, c :: bs, h => by
    cases h with
    | cons h1 h2 =>
      obtain ⟨g1, g2⟩ := eqb_vals (b := b) h2
      cases h1
      refine ⟨fun u hu => ?_, ?_⟩
      · rcases List.mem_cons.mp hu with e | e
        · exact ⟨c, e⟩
        · exact g1 u e
      · rw [List.countP_cons, List.count_cons, g2]
        rfl
def rCntB (K : PySem.W.Frag) : V → List V → Hp → VK → Prop := fun x xs H Q => ∃ (p : Addr) (bs : List Bool) (b : Bool), x = .ref p ∧ xs = [.bl b] ∧ SqL K H p (bs.map V.bl) ∧ Q (.int (bs.count b : Nat)) H
section
variable {X : Cx} {T : Tb} {pos : Pos}
theorem mt_countB : MtR X "list.count" (rCntB X.K) := by
  intro pins s σ H x xs v us Q I rx rxs h
  obtain ⟨p, bs, b, rfl, rfl, hs, q⟩ := h
  cases rx
  obtain ⟨u, rfl, ru⟩ := rxs.one
  cases ru
  obtain ⟨its, rv, ⟨⟨cls, dd, data, sl⟩, n, ho, hc, hdn, hd⟩, hlen⟩ := I.list hs
  simp only at hc hd
  subst hc hd
  obtain ⟨g1, g2⟩ := eqb_vals (b := b) rv
  refine call_meets PySem.F.slot_list_count ⟨_, ho, rfl⟩ PySem.F.entry_list_count (PySem.F.args_list_count_2 _ _)
    (SeqAt.list_countAt p its.toArray n dd sl (.bool b) (eqb b)) ⟨ho, fun y hy => ?_, ?_⟩
  · obtain ⟨c, rfl⟩ := g1 y (by simpa using hy)
    exact eqAt_V (y := .bl c) (x := .bl b) rfl rfl rfl rfl
  have ec : its.toArray.toList.countP (eqb b) = bs.count b := g2
  refine ⟨.int (bs.count b : Nat), H, I.tok _, ⟨s.toks, ?_⟩, q⟩
  show Value.int ((its.toArray.toList.countP (eqb b) : Nat) : Int) s.toks = Value.int ((bs.count b : Nat) : Int) s.toks
  rw [ec]
theorem md_countB : MtD X T "list" "list.count" mCountB := by
  refine ⟨fun {μ H F as r rs x xs} m rel rels {σ Q Wx} p => ?_⟩
  unfold mCountB at p
  split at p
  · rename_i ds b hds
    split at p
    · rename_i bs hbs
      obtain ⟨a, vs, rfl, hL, hd⟩ := see_list m rel hds
      obtain ⟨v, rfl, rv⟩ := relws1 rels
      cases rv
      rw [boolsOf_eq hbs] at hd
      have e := DqAll.of_bools hd
      subst e
      exact ⟨_, mt_countB, a, bs, b, rfl, rfl, .inl hL, p _ H F as (Ext.refl _ _) m (.int _)⟩
    · exact p.elim
  · exact p.elim
/-- the place of the first True -/
def mIndexB (r : R) (rs : List R) (μ : Mem) : Rs R := match see r μ, rs with
  | some (.list ds), [.d (.bool b)] => match boolsOf ds with
    | some bs => match bs.findIdx? (fun c => c == b) with
      | some j => .ok (.d (.int (j : Nat))) μ
      | none => .no
    | none => .no
  | _, _ => .no
theorem md_indexB : MtD X T "list" "list.index" mIndexB := by
  refine ⟨fun {μ H F as r rs x xs} m rel rels {σ Q Wx} p => ?_⟩
  unfold mIndexB at p
  split at p
  · rename_i ds b hds
    split at p
    · rename_i bs hbs
      split at p
      · rename_i j hj
        obtain ⟨a, vs, rfl, hL, hd⟩ := see_list m rel hds
        obtain ⟨v, rfl, rv⟩ := relws1 rels
        cases rv
        rw [boolsOf_eq hbs] at hd
        have e := DqAll.of_bools hd
        subst e
        obtain ⟨h1, h2, h3⟩ := List.findIdx?_eq_some_iff_getElem.mp hj
        refine ⟨_, mt_index, a, _, .bl b, j, .bl bs[j], rfl, rfl, .inl hL, rfl, ?_, ?_, ?_, fun k z hk hz => ?_, p _ H F as (Ext.refl _ _) m (.int _)⟩
        · rw [List.all_map]; exact List.all_eq_true.mpr fun c _ => rfl
        · rw [List.getElem?_map, List.getElem?_eq_getElem h1]; rfl
        · exact h2
        · rw [List.getElem?_map] at hz
          cases hc : bs[k]? with
          | none => rw [hc] at hz; cases hz
          | some c =>
            rw [hc] at hz
            cases hz
            have hkl := (List.getElem?_eq_some_iff.mp hc)
            have := h3 k hk
            rw [hkl.2] at this
            show (c == b) = false
            simpa using this
      · exact p.elim
    · exact p.elim
  · exact p.elim
/-! ### except C as e -/
/-- wiped when the clause ends -/
def wipeO (i : Nat) : Out → Out
  | .nx ρ μ => .nx (ρ.set i none) μ
  | .bk ρ μ => .bk (ρ.set i none) μ
  | .ct ρ μ => .ct (ρ.set i none) μ
  | .rt r μ => .rt r μ
  | .ex _ _ _ => .no
  | .no => .no
/-- which classes may come, and which is under which -/
structure SubB (K : PySem.W.Frag) (mg : Str → Option Value) (known hds : List Str) (sub : Str → Str → Bool) : Prop where
  exm : ∀ x ∈ known, ∀ h ∈ hds, ∀ Cx Ch : Addr, mg x = some (.ref Cx) → mg h = some (.ref Ch) → PySem.W.exmOne K (.ref Cx) (.ref Ch) = some (sub x h)
  kit : ∀ x ∈ known, ∀ h ∈ hds, ∀ Cx Ch : Addr, mg x = some (.ref Cx) → mg h = some (.ref Ch) → PySem.W.kitOne K (.ref Cx) (.ref Ch) = some (sub x h)
  val : ∀ x ∈ known, ∀ Cx : Addr, mg x = some (.ref Cx) → PySem.W.kitOne K (.ref Cx) (.type "ValueError") = some true
  cls : ∀ x ∈ known, ∀ Cx : Addr, mg x = some (.ref Cx) → ExcC K Cx
def sTryAs (known : List Str) (sub : Str → Str → Bool) (cb : SC) (h : Str) (i : Nat) (cs : Addr → Ex → SC) : SC := fun ρ μ => match cb ρ μ with
  | .ex x ρ' μ' => if x.arg.isNone = true ∧ known.contains x.cls = true then (if sub x.cls h = true then wipeO i (cs 0 x (ρ'.set i (some (.o 0))) μ') else .ex x ρ' μ') else .no
  | o => o
/-- isinstance(e, C) in the clause -/
def cIsE (i : Nat) (a : Addr) (b : Bool) : EC := fun ρ μ => match ρ[i]? with
  | some (some (.o a')) => if a' = a then .ok (.d (.bool b)) μ else .no
  | _ => .no
theorem posts_wipe {K : PySem.W.Frag} {mg : Str → Option Value} {F : Hp} {as : List Addr} {D : Ends} {Wx Wy : WX} {i : Nat} {o : Out} (p : PostS K mg T F as D Wx (wipeO i o)) :
    PostS K mg T F as { nx := fun σ' H' => D.nx (σ'.set i none) H', rt := D.rt, bk := fun σ' H' => D.bk (σ'.set i none) H', ct := fun σ' H' => D.ct (σ'.set i none) H' } Wy o := by
  have wp : ∀ {ρ : Vr} {σ : L2.St} {F : Hp} {as : List Addr}, EnvR K ρ σ F as → EnvR K (ρ.set i none) (σ.set i none) F as := fun {ρ σ F as} en => by
    refine ⟨by rw [List.length_set, List.length_set]; exact en.1, fun j r q => ?_⟩
    by_cases hj : i = j
    · subst hj
      by_cases hl : i < ρ.length
      · rw [List.getElem?_set_self hl] at q; cases q
      · rw [List.getElem?_eq_none (by rw [List.length_set]; omega)] at q; cases q
    · rw [List.getElem?_set_ne hj] at q ⊢
      exact en.2 j r q
  cases o with
  | nx ρ μ => exact fun σ' H' F' as' e m en => p _ H' F' as' e m (wp en)
  | bk ρ μ => exact fun σ' H' F' as' e m en => p _ H' F' as' e m (wp en)
  | ct ρ μ => exact fun σ' H' F' as' e m en => p _ H' F' as' e m (wp en)
  | rt r μ => exact p
  | ex x ρ μ => exact p.elim
  | no => exact p
theorem ds_tryAs (i : Nat) {h n : Str} {b₀ : Stmt} {body suite : List Stmt} {np pos' : Pos} {cb : SC} {cs : Addr → Ex → SC} {known hds : List Str} {sub : Str → Str → Bool} (S : SubB X.K X.mg known hds sub) (hh : h ∈ hds) (hc : ∃ C : Addr, X.mg h = some (.ref C)) (hN : X.N.Nodup)
    (hb : ∀ pn xe, DB (X.tr pn xe) T body cb)
    (hsu : ∀ (a : Addr) (oe : Obj) (pn : List (Addr × Obj)) (x : Ex) (Cx : Addr), x.cls ∈ known → X.mg x.cls = some (.ref Cx) → Zc (.ref Cx) none oe → (∃ vs, oe.data = .fields vs) → DB (X.suite a ((a, oe) :: pn)) T (b₀ :: suite) (cs a x))
    (hind : ∀ (a : Addr) (x : Ex) (ρ : Vr) (μ : Mem), ρ.length = X.N.length → wipeO i (cs a x (ρ.set i (some (.o a))) μ) = wipeO i (cs 0 x (ρ.set i (some (.o 0))) μ))
    (hi : X.N[i]? = some n := by rfl) (hln : X.env.kindOf n = some .local := by rfl) (hg : Gl X h := by rfl) (hdb : (h == ("__debug__" : Str)) = false := by decide) (h1 : X.stack = X.env :: X.outer := by rfl) (h2 : X.env.frame = some X.env.locals := by rfl) :
    DS X T (.Try body [.ExceptHandler (some (.Name h np)) (some n) (b₀ :: suite) pos'] [] [] pos) (sTryAs known sub cb h i cs) := by
  obtain ⟨C, hC⟩ := hc
  refine ⟨fun {ρ μ σ H F as} m en {D Wx} tk p pins s I => ?_⟩
  have hl : ρ.length = X.N.length := by rw [en.1]; exact I.len
  refine (ps_try_as (X := X) (i := i) (c := .ref C) (tb := fun W D σ H => ∀ (pn : List (Addr × Obj)) (xe : Value → Shared → Prop), Takes (X.tr pn xe) W → VB (X.tr pn xe) body σ H D)
    (ts := fun a cls d D σ H => ∀ (oe : Obj) (pn : List (Addr × Obj)), Zc cls d oe → (∃ vs, oe.data = .fields vs) → VB (X.suite a ((a, oe) :: pn)) (b₀ :: suite) σ H D)
    h1 h2 hN hi hln ⟨hg, hdb, .inl hC⟩ tk (fun W pn xe tk' _ => ⟨fun pins s σ H D I q => q pn xe tk' pins s I⟩) (fun a oe cls d pn z1 z2 => ⟨fun pins s σ H D I q => q oe pn z1 z2 pins s I⟩)).run pins s σ H D I ?_
  intro pn xe tk'
  refine (hb pn xe).run m en tk' ?_
  unfold sTryAs at p
  cases hcb : cb ρ μ with
  | nx ρ' μ' => rw [hcb] at p; exact p
  | rt r μ' => rw [hcb] at p; exact p
  | bk ρ' μ' => rw [hcb] at p; exact p
  | ct ρ' μ' => rw [hcb] at p; exact p
  | no => rw [hcb] at p; exact p
  | ex x ρ' μ' =>
    rw [hcb] at p
    simp only at p
    intro cls d σ' H' F' as' e m' en' xr
    split at p
    · rename_i hk
      obtain ⟨hka, hkn⟩ := hk
      have hkm : x.cls ∈ known := by simpa using hkn
      obtain ⟨Cx, rfl, hx, xa⟩ := id xr
      have hd : d = none := by
        cases hxa : x.arg with
        | none => rw [hxa] at xa; exact xa
        | some z => rw [hxa] at hka; cases hka
      subst hd
      refine ⟨sub x.cls h, S.exm _ hkm _ hh Cx C hx hC, fun hb' a ha oe pn' z1 z2 => ?_, fun hb' => ?_⟩
      · rw [if_pos hb'] at p
        intro pins' s' I'
        have hlen : ρ'.length = X.N.length := by
          have z := I'.len
          rw [List.length_set] at z
          rw [en'.1]; exact z
        refine (hsu a oe pn' x Cx hkm hx z1 z2).run (ρ := ρ'.set i (some (.o a))) m' (en'.set (r := .o a) rfl i) takes0 (Wx := fun _ _ _ _ => False) (posts_wipe (Wx := Wx) ?_) pins' s' I'
        rw [hind a x ρ' μ' hlen]
        exact PostS.ext p e
      · rw [if_neg (by rw [hb']; exact Bool.false_ne_true)] at p
        exact p _ none σ' H' F' as' e m' en' xr
    · exact p.elim
/-- isinstance(e, C) of an own class -/
theorem de_isE (i : Nat) {a : Addr} {oe : Obj} {pn : List (Addr × Obj)} {n h : Str} {x : Ex} {Cx : Addr} {known hds : List Str} {sub : Str → Str → Bool} {p p1 p2 : Pos} (S : SubB X.K X.mg known hds sub) (hkm : x.cls ∈ known) (hx : X.mg x.cls = some (.ref Cx)) (z1 : Zc (.ref Cx) none oe) (z2 : ∃ vs, oe.data = .fields vs)
    (hh : h ∈ hds) (hc : ∃ C : Addr, X.mg h = some (.ref C)) (hm : X.mg "isinstance" = none) (hi : X.N[i]? = some n := by rfl) (hv : Vis X.env.scope n := by first | exact Or.inl rfl | exact Or.inr (Or.inl rfl)) (hg : Gl X "isinstance" := by rfl) (hgh : Gl X h := by rfl)
    (hdn : (n == ("__debug__" : Str)) = false := by decide) (hcn : (n == ("__classdict__" : Str)) = false := by decide) (hdb : (h == ("__debug__" : Str)) = false := by decide)
    (hs1 : starEach [.Name n p1, .Name h p2] X.env = (false, eval (.Name n p1) X.env) :: starEach [.Name h p2] X.env := by rfl) (hs2 : starEach [.Name h p2] X.env = (false, eval (.Name h p2) X.env) :: starEach [] X.env := by rfl) (hpl : (backTo pos (starEach [.Name h p2] X.env)).any (·.1) = false := by rfl) :
    DE (X.suite a ((a, oe) :: pn)) T (.Call (.Name "isinstance" p) [.Name n p1, .Name h p2] [] pos) (cIsE i a (sub x.cls h)) := by
  obtain ⟨C, hC⟩ := hc
  refine ⟨fun {ρ μ σ H F as} m en {Q Wx} tk pp => ve_of (pe_callB (X := X.suite a ((a, oe) :: pn)) (call_isE (X := X) (S.cls _ hkm _ hx) z1 z2) hg hm (by decide +kernel) (pa_cons (pe_var hi hv hdn hcn) (pa_cons (pe_glob (v := .ref C) hgh hC rfl hdb) pa_nil hs2) hs1) (by decide) (by decide) hs1 hpl) ?_⟩
  unfold cIsE at pp
  cases hr : ρ[i]? with
  | none => simp only [hr] at pp; exact pp.elim
  | some o =>
    cases o with
    | none => simp only [hr] at pp; exact pp.elim
    | some r =>
      simp only [hr] at pp
      cases r with
      | o a' =>
        simp only at pp
        split at pp
        · rename_i ha
          subst ha
          obtain ⟨v, g1, g2⟩ := en.2 i _ hr
          cases g2
          exact ⟨_, g1, ⟨.ref C, .ref C, _, rfl, fun u hu => hu, S.kit _ hkm _ hh Cx C hx hC, pp _ H F as (Ext.refl _ _) m (.bl _)⟩⟩
        · exact pp.elim
      | d x => exact pp.elim
      | c n => exact pp.elim
      | fl ds => exact pp.elim
      | fk ds => exact pp.elim
/-- isinstance(e, ValueError) -/
theorem de_isV (i : Nat) {a : Addr} {oe : Obj} {pn : List (Addr × Obj)} {n : Str} {x : Ex} {Cx : Addr} {known hds : List Str} {sub : Str → Str → Bool} {p p1 p2 : Pos} (S : SubB X.K X.mg known hds sub) (hkm : x.cls ∈ known) (hx : X.mg x.cls = some (.ref Cx)) (z1 : Zc (.ref Cx) none oe) (z2 : ∃ vs, oe.data = .fields vs)
    (hm : X.mg "isinstance" = none) (hmv : X.mg "ValueError" = none) (hi : X.N[i]? = some n := by rfl) (hv : Vis X.env.scope n := by first | exact Or.inl rfl | exact Or.inr (Or.inl rfl)) (hg : Gl X "isinstance" := by rfl) (hgh : Gl X "ValueError" := by rfl)
    (hdn : (n == ("__debug__" : Str)) = false := by decide) (hcn : (n == ("__classdict__" : Str)) = false := by decide)
    (hs1 : starEach [.Name n p1, .Name "ValueError" p2] X.env = (false, eval (.Name n p1) X.env) :: starEach [.Name "ValueError" p2] X.env := by rfl) (hs2 : starEach [.Name "ValueError" p2] X.env = (false, eval (.Name "ValueError" p2) X.env) :: starEach [] X.env := by rfl) (hpl : (backTo pos (starEach [.Name "ValueError" p2] X.env)).any (·.1) = false := by rfl) :
    DE (X.suite a ((a, oe) :: pn)) T (.Call (.Name "isinstance" p) [.Name n p1, .Name "ValueError" p2] [] pos) (cIsE i a true) := by
  refine ⟨fun {ρ μ σ H F as} m en {Q Wx} tk pp => ve_of (pe_callB (X := X.suite a ((a, oe) :: pn)) (call_isE (X := X) (S.cls _ hkm _ hx) z1 z2) hg hm (by decide +kernel) (pa_cons (pe_var hi hv hdn hcn) (pa_cons (pe_bltn (v := .ty "ValueError") hgh hmv (by decide +kernel) rfl (by decide) (by decide)) pa_nil hs2) hs1) (by decide) (by decide) hs1 hpl) ?_⟩
  unfold cIsE at pp
  cases hr : ρ[i]? with
  | none => simp only [hr] at pp; exact pp.elim
  | some o =>
    cases o with
    | none => simp only [hr] at pp; exact pp.elim
    | some r =>
      simp only [hr] at pp
      cases r with
      | o a' =>
        simp only at pp
        split at pp
        · rename_i ha
          subst ha
          obtain ⟨v, g1, g2⟩ := en.2 i _ hr
          cases g2
          exact ⟨_, g1, ⟨.ty "ValueError", .type "ValueError", _, rfl, fun u hu => hu, S.val _ hkm _ hx, pp _ H F as (Ext.refl _ _) m (.bl _)⟩⟩
        · exact pp.elim
      | d x => exact pp.elim
      | c n => exact pp.elim
      | fl ds => exact pp.elim
      | fk ds => exact pp.elim
end
end Em
set_option maxRecDepth 100000
namespace Em
open PySem PySem.Spec PyProof.Rows L2
theorem sAsg_ (g : GC) (c : EC) (ρ : Vr) (μ : Mem) : sAsg g c ρ μ = ((cD c ρ μ).thenS ρ fun r μ1 => match r with
  | .d x => match g x ρ with
    | some ρ' => .nx ρ' μ1
    | none => .no
  | _ => .no) := rfl
theorem iZp_ (ca : AC) (ρ : Vr) (μ : Mem) : iZp ca ρ μ = ((ca ρ μ).bind zipOf) := rfl
theorem cIsE_ (i : Nat) (a : Addr) (b : Bool) (ρ : Vr) (μ : Mem) : cIsE i a b ρ μ = (match ρ[i]? with
  | some (some (.o a')) => if a' = a then .ok (.d (.bool b)) μ else .no
  | _ => .no) := rfl
theorem cLam_ (ψ : (Mem → Rs R) → Mem → Rs R) (cb : EC) (ρ : Vr) (μ : Mem) : cLam ψ cb ρ μ = (match ψ (fun μ' => cb ρ μ') μ with | .ok r μ' => .ok r μ' | _ => .no) := rfl
theorem cThunk_ (i : Nat) (f : Addr) (th : Mem → Rs R) (ρ : Vr) (μ : Mem) : cThunk i f th ρ μ = (match ρ[i]? with | some (some (.o a)) => if a = f then th μ else .no | _ => .no) := rfl
theorem sCons_nx {a b : SC} {ρ ρ' : Vr} {μ μ' : Mem} (h : a ρ μ = .nx ρ' μ') : sCons a b ρ μ = b ρ' μ' := by rw [sCons_, h]
theorem bools1 (b : Bool) (ds : List D) : boolsOf (.bool b :: ds) = (boolsOf ds).map (b :: ·) := rfl
theorem bools0 : boolsOf [] = some [] := rfl
end Em
set_option maxRecDepth 100000
namespace Em
open PySem PySem.Spec PyProof.Rows L2
section
variable {X : Cx} {T : Tb} {pos : Pos}
/-! ### a, b, c = x, y, z -/
def sPar3 (i j l : Nat) (ca cb cc : EC) : SC := fun ρ μ => (ca ρ μ).thenS ρ fun r μ1 => (cb ρ μ1).thenS ρ fun r' μ2 => (cc ρ μ2).thenS ρ fun r'' μ3 => .nx (((ρ.set i (some r)).set j (some r')).set l (some r'')) μ3
theorem sPar3_ (i j l : Nat) (ca cb cc : EC) (ρ : Vr) (μ : Mem) : sPar3 i j l ca cb cc ρ μ = ((ca ρ μ).thenS ρ fun r μ1 => (cb ρ μ1).thenS ρ fun r' μ2 => (cc ρ μ2).thenS ρ fun r'' μ3 => .nx (((ρ.set i (some r)).set j (some r')).set l (some r'')) μ3) := rfl
theorem ds_par3 (i j l : Nat) {x y z : Str} {a b c : Expr} {ca cb cc : EC} {px py pz pt : Pos} {kt k2 pt2} (hN : X.N.Nodup) (h1 : DW X T a ca) (h2 : DW X T b cb) (h3 : DW X T c cc) (hc : X.calm = true := by rfl) (hi : X.N[i]? = some x := by rfl) (hj : X.N[j]? = some y := by rfl) (hl : X.N[l]? = some z := by rfl) (hij : i ≠ j := by decide) (hil : i ≠ l := by decide) (hjl : j ≠ l := by decide)
    (hx : X.env.scope.names.lookup x = some .local := by rfl) (hy : X.env.scope.names.lookup y = some .local := by rfl) (hz : X.env.scope.names.lookup z = some .local := by rfl)
    (hw : swappedStores [.Tuple [.Name x px, .Name y py, .Name z pz] kt pt] (.Tuple [a, b, c] k2 pt2) X.env = pure (some [x, y, z]) := by rfl)
    (hs : swapsWithSole [.Tuple [.Name x px, .Name y py, .Name z pz] kt pt] (.Tuple [a, b, c] k2 pt2) pos.line X.env = pure false := by rfl)
    (hs1 : starEach [a, b, c] X.env = (false, eval a X.env) :: starEach [b, c] X.env := by rfl) (hs2 : starEach [b, c] X.env = (false, eval b X.env) :: starEach [c] X.env := by rfl) (hs3 : starEach [c] X.env = (false, eval c X.env) :: starEach [] X.env := by rfl) :
    DS X T (.Assign [.Tuple [.Name x px, .Name y py, .Name z pz] kt pt] (.Tuple [a, b, c] k2 pt2) pos) (sPar3 i j l ca cb cc) := by
  refine ⟨fun {ρ μ σ H F as} m en {D Wx} tk p => vs_of (ps_par3 hc hN hi hj hl hij hil hjl hx hy hz (pa_cons pe_self (pa_cons pe_self (pa_cons pe_self pa_nil hs3) hs2) hs1) hw hs) ?_⟩
  refine h1.run m en tk (w_then en p fun r μ1 p1 v H1 F1 as1 e1 m1 r1 => ?_)
  refine h2.run m1 (en.mono e1) tk (w_then (en.mono e1) (PostS.ext p1 e1) fun r' μ2 p2 v' H2 F2 as2 e2 m2 r2 => ?_)
  refine h3.run m2 ((en.mono e1).mono e2) tk (w_then ((en.mono e1).mono e2) (PostS.ext p2 e2) fun r'' μ3 p3 v'' H3 F3 as3 e3 m3 r3 => ?_)
  exact ⟨v, v', v'', rfl, p3 _ H3 F3 as3 e3 m3 ((((((en.mono e1).mono e2).mono e3).set (r1.mono (e2.trans e3)) i).set (r2.mono e3) j).set r3 l)⟩
end
theorem sz0 : (0 ≤ sizeLine) = True := eq_true (by decide)
theorem sz1 : (1 ≤ sizeLine) = True := eq_true (by decide)
theorem sz2 : (2 ≤ sizeLine) = True := eq_true (by decide)
theorem sz3 : (3 ≤ sizeLine) = True := eq_true (by decide)
theorem sz4 : (4 ≤ sizeLine) = True := eq_true (by decide)
theorem sz5 : (5 ≤ sizeLine) = True := eq_true (by decide)
theorem sz6 : (6 ≤ sizeLine) = True := eq_true (by decide)
theorem sz7 : (7 ≤ sizeLine) = True := eq_true (by decide)
theorem sz8 : (8 ≤ sizeLine) = True := eq_true (by decide)
theorem sz9 : (9 ≤ sizeLine) = True := eq_true (by decide)
theorem sz10 : (10 ≤ sizeLine) = True := eq_true (by decide)
theorem sz11 : (11 ≤ sizeLine) = True := eq_true (by decide)
theorem sz12 : (12 ≤ sizeLine) = True := eq_true (by decide)
theorem sz13 : (13 ≤ sizeLine) = True := eq_true (by decide)
theorem sz14 : (14 ≤ sizeLine) = True := eq_true (by decide)
theorem sz15 : (15 ≤ sizeLine) = True := eq_true (by decide)
theorem sz16 : (16 ≤ sizeLine) = True := eq_true (by decide)
theorem sz17 : (17 ≤ sizeLine) = True := eq_true (by decide)
theorem sz18 : (18 ≤ sizeLine) = True := eq_true (by decide)
theorem sz19 : (19 ≤ sizeLine) = True := eq_true (by decide)
theorem sz20 : (20 ≤ sizeLine) = True := eq_true (by decide)
theorem sz21 : (21 ≤ sizeLine) = True := eq_true (by decide)
theorem sz22 : (22 ≤ sizeLine) = True := eq_true (by decide)
theorem sz23 : (23 ≤ sizeLine) = True := eq_true (by decide)
theorem sz24 : (24 ≤ sizeLine) = True := eq_true (by decide)
theorem sz25 : (25 ≤ sizeLine) = True := eq_true (by decide)
theorem sz26 : (26 ≤ sizeLine) = True := eq_true (by decide)
theorem sz27 : (27 ≤ sizeLine) = True := eq_true (by decide)
theorem sz28 : (28 ≤ sizeLine) = True := eq_true (by decide)
theorem sz29 : (29 ≤ sizeLine) = True := eq_true (by decide)
theorem sz30 : (30 ≤ sizeLine) = True := eq_true (by decide)
theorem sz31 : (31 ≤ sizeLine) = True := eq_true (by decide)
theorem sz32 : (32 ≤ sizeLine) = True := eq_true (by decide)
theorem sz33 : (33 ≤ sizeLine) = True := eq_true (by decide)
theorem sz34 : (34 ≤ sizeLine) = True := eq_true (by decide)
theorem sz35 : (35 ≤ sizeLine) = True := eq_true (by decide)
theorem sz36 : (36 ≤ sizeLine) = True := eq_true (by decide)
theorem sz37 : (37 ≤ sizeLine) = True := eq_true (by decide)
theorem sz38 : (38 ≤ sizeLine) = True := eq_true (by decide)
theorem sz39 : (39 ≤ sizeLine) = True := eq_true (by decide)
theorem sz40 : (40 ≤ sizeLine) = True := eq_true (by decide)
theorem sy0 : (0 < sizeLine) = True := eq_true (by decide)
theorem sy1 : (1 < sizeLine) = True := eq_true (by decide)
theorem sy2 : (2 < sizeLine) = True := eq_true (by decide)
theorem sy3 : (3 < sizeLine) = True := eq_true (by decide)
theorem sy4 : (4 < sizeLine) = True := eq_true (by decide)
theorem sy5 : (5 < sizeLine) = True := eq_true (by decide)
theorem sy6 : (6 < sizeLine) = True := eq_true (by decide)
theorem sy7 : (7 < sizeLine) = True := eq_true (by decide)
theorem sy8 : (8 < sizeLine) = True := eq_true (by decide)
theorem sy9 : (9 < sizeLine) = True := eq_true (by decide)
theorem sy10 : (10 < sizeLine) = True := eq_true (by decide)
theorem sy11 : (11 < sizeLine) = True := eq_true (by decide)
theorem sy12 : (12 < sizeLine) = True := eq_true (by decide)
theorem sy13 : (13 < sizeLine) = True := eq_true (by decide)
theorem sy14 : (14 < sizeLine) = True := eq_true (by decide)
theorem sy15 : (15 < sizeLine) = True := eq_true (by decide)
theorem sy16 : (16 < sizeLine) = True := eq_true (by decide)
theorem sy17 : (17 < sizeLine) = True := eq_true (by decide)
theorem sy18 : (18 < sizeLine) = True := eq_true (by decide)
theorem sy19 : (19 < sizeLine) = True := eq_true (by decide)
theorem sy20 : (20 < sizeLine) = True := eq_true (by decide)
theorem sy21 : (21 < sizeLine) = True := eq_true (by decide)
theorem sy22 : (22 < sizeLine) = True := eq_true (by decide)
theorem sy23 : (23 < sizeLine) = True := eq_true (by decide)
theorem sy24 : (24 < sizeLine) = True := eq_true (by decide)
theorem sy25 : (25 < sizeLine) = True := eq_true (by decide)
theorem sy26 : (26 < sizeLine) = True := eq_true (by decide)
theorem sy27 : (27 < sizeLine) = True := eq_true (by decide)
theorem sy28 : (28 < sizeLine) = True := eq_true (by decide)
theorem sy29 : (29 < sizeLine) = True := eq_true (by decide)
theorem sy30 : (30 < sizeLine) = True := eq_true (by decide)
theorem sy31 : (31 < sizeLine) = True := eq_true (by decide)
theorem sy32 : (32 < sizeLine) = True := eq_true (by decide)
theorem sy33 : (33 < sizeLine) = True := eq_true (by decide)
theorem sy34 : (34 < sizeLine) = True := eq_true (by decide)
theorem sy35 : (35 < sizeLine) = True := eq_true (by decide)
theorem sy36 : (36 < sizeLine) = True := eq_true (by decide)
theorem sy37 : (37 < sizeLine) = True := eq_true (by decide)
theorem sy38 : (38 < sizeLine) = True := eq_true (by decide)
theorem sy39 : (39 < sizeLine) = True := eq_true (by decide)
theorem sy40 : (40 < sizeLine) = True := eq_true (by decide)
end Em
set_option maxRecDepth 100000
namespace Em
open PySem PySem.Spec PyProof.Rows L2
def zipD (xs ys : List D) : List D := List.zipWith (fun x y => .tuple [x, y]) xs ys
theorem itm_zipT (xs ys : List D) : ItmIs (.zip (.d (.tuple xs)) (.d (.tuple ys))) (zipD xs ys) := by
  refine ⟨fun _ => by simp [itLen, zipD, seeL, see], fun _ i => ?_⟩
  show (match xs[i]?, ys[i]? with
      | some x, some y => some (PyData.tuple [x, y])
      | _, _ => none) = _
  unfold zipD
  rw [List.getElem?_zipWith]
  cases xs[i]? <;> cases ys[i]? <;> rfl
theorem itm_zipL (xs ys : List D) : ItmIs (.zip (.d (.list xs)) (.d (.list ys))) (zipD xs ys) := by
  refine ⟨fun _ => by simp [itLen, zipD, seeL, see], fun _ i => ?_⟩
  show (match xs[i]?, ys[i]? with
      | some x, some y => some (PyData.tuple [x, y])
      | _, _ => none) = _
  unfold zipD
  rw [List.getElem?_zipWith]
  cases xs[i]? <;> cases ys[i]? <;> rfl
theorem zipD_len (xs ys : List D) : (zipD xs ys).length = min xs.length ys.length := by simp [zipD]
theorem zipD_ints (xs ys : List Int) : zipD (xs.map .int) (ys.map .int) = (xs.zip ys).map fun p => .tuple [.int p.1, .int p.2] := by
  unfold zipD
  rw [List.zipWith_map, List.zip_eq_zipWith, List.map_zipWith]
theorem atI_ints {xs : List Int} {k : Nat} {x : Int} (h : xs[k]? = some x) : L2.atI (xs.map PyData.int) (k : Nat) = some (.int x) := atI_at (by rw [List.getElem?_map, h]; rfl)
end Em
set_option maxRecDepth 100000
set_option maxHeartbeats 0
namespace L28
open PySem PySem.Spec PyProof.Rows L2 Em
def topS (i : Nat) : Stmt := PySem.Challenge.pw_emberhall_k28_whole_stretches_of_hose.main.body.getD i (.Pass ⟨0, 0, 0, 0⟩)
def known : List Str := ["NoKit", "NoRises", "NoFlow", "NoDue", "NoSpot", "NoNumber"]
def hds : List Str := ["EmberError", "NoDue", "NoFlow", "NoKit", "NoNumber", "NoRises", "NoSpot"]
def sbL : List (Str × Str) := [("NoKit", "EmberError"), ("NoKit", "NoKit"), ("NoRises", "EmberError"), ("NoRises", "NoRises"), ("NoFlow", "EmberError"), ("NoFlow", "NoFlow"), ("NoDue", "EmberError"), ("NoDue", "NoDue"), ("NoSpot", "EmberError"), ("NoSpot", "NoSpot"), ("NoNumber", "EmberError"), ("NoNumber", "NoNumber")]
def sb (x h : Str) : Bool := sbL.contains (x, h)
structure G (mg : Str → Option Value) : Prop where
  n_int : mg "int" = none
  n_abs : mg "abs" = none
  n_len : mg "len" = none
  n_range : mg "range" = none
  n_max : mg "max" = none
  n_tuple : mg "tuple" = none
  n_isinstance : mg "isinstance" = none
  n_bool : mg "bool" = none
  n_all : mg "all" = none
  n_zip : mg "zip" = none
  n_min : mg "min" = none
  n_list : mg "list" = none
  n_ValueError : mg "ValueError" = none
  n_enumerate : mg "enumerate" = none
  i_LEAST_FLOWS : ∃ t, mg "LEAST_FLOWS" = some (.int 2 t)
  i_MOST_FLOWS : ∃ t, mg "MOST_FLOWS" = some (.int 41 t)
  i_MOST_PRESSURE : ∃ t, mg "MOST_PRESSURE" = some (.int 1000 t)
  i_MOST_RISES : ∃ t, mg "MOST_RISES" = some (.int 20 t)
  i_MOST_RISE : ∃ t, mg "MOST_RISE" = some (.int 100 t)
  i_MOST_BESIDE : ∃ t, mg "MOST_BESIDE" = some (.int 4 t)
/-! ### _law_hand -/
abbrev st__law_hand : Stmt := topS 33
def N__law_hand : List Str := ["script", "cells", "cell"]
theorem sc__law_hand : FnScope N__law_hand ["script"] (defScope st__law_hand) := ⟨rfl, rfl, rfl, by decide +kernel, rfl, by decide +kernel, by decide +kernel⟩
def C__law_hand : SC :=
  (sCons (sSet 1 (cD (cLc (iAny (cH (cSl (cV 0) cNoPart (cPart (cK (.int 63)))))) [2] (gN 2) cYes (cBin opMod (cH (cCall (one fInt) (cCons (cH (cCall (one fAbs) (cCons (cH (cCall (one fInt) (cCons (cV 2) cNil))) cNil))) cNil))) (cH (cBin opPow (cK (.int 10)) (cK (.int 36))))))))
  (sRet (cCall opLst (cCons (cV 1) (cCons (cK (.int 0)) (cCons (cK (.int 0)) (cCons (cD (cBin opAdd (cK (.int 463)) (cH (cBin opMul (cK (.int 347)) (cH (cCall (one fLen) (cCons (cV 1) cNil))))))) (cCons (cK (.int 0)) cNil))))))))
def F__law_hand : Fn := fnOf 3 C__law_hand
theorem ok__law_hand {P : Program} {w : World} {K : PySem.W.Frag} {mg : Str → Option Value} {base : Heap} {T : Tb} {f : Addr} {fd : FuncData} (g : G mg) (F : Fun K "_law_hand" "_law_hand" st__law_hand f fd) (hm : mg "_law_hand" = some (.ref f)) (hb : Binds K fd ["script"] []) : Callee P w K mg base T "_law_hand" 1 1 F__law_hand := by
  have nd := sc__law_hand.nd
  exact Callee.mk' F sc__law_hand rfl hm hb fun cdv A outer s H E hr => (db_cons (ds_setLc 1 cD (.inr rfl) nd (di_any (DE.hold (de_sl (dw_var 0) dp_none (dp_some (DW.toE dw_int))))) (blkOk_by (own := [("cell", 2)]) (by kernel_rfl)) (fun _ _ _ _ _ => (dg_name 2 nd)) (fun _ _ _ _ _ => dts_nil) (fun _ _ _ _ _ => (de_bin od_mod (DE.hold (de_callTy cd_int g.n_int (da_cons (DE.hold (de_callB cd_abs g.n_abs (da_cons (DE.hold (de_callTy cd_int g.n_int (da_cons (dw_var 2) da_nil))) da_nil))) da_nil))) (DE.hold (de_bin od_pow dw_int dw_int)))))
  (db_one (ds_ret (de_lst (da_cons (dw_var 1) (da_cons dw_int (da_cons dw_int (da_cons (DE.data (de_bin od_add dw_int (DE.hold (de_bin (od_mul op_repL) dw_int (DE.hold (de_callB cd_len g.n_len (da_cons (dw_var 1) da_nil))))))) (da_cons dw_int da_nil)))))))))
/-! ### _law_draw -/
abbrev st__law_draw : Stmt := topS 34
def N__law_draw : List Str := ["hand", "many", "cell", "digit", "number"]
theorem sc__law_draw : FnScope N__law_draw ["hand", "many"] (defScope st__law_draw) := ⟨rfl, rfl, rfl, by decide +kernel, rfl, by decide +kernel, by decide +kernel⟩
def C__law_draw : SC :=
  (sCons (sIf (cAndT (cT (cBin (opEq false) (cH (cBin opIx (cV 0) (cK (.int 2)))) (cK (.int 0)))) (cT (cBin opLt (cH (cBin opIx (cV 0) (cK (.int 1)))) (cH (cCall (one fLen) (cCons (cH (cBin opIx (cV 0) (cK (.int 0)))) cNil))))))
  (sCons (sSet 2 (cH (cBin opIx (cH (cBin opIx (cV 0) (cK (.int 0)))) (cH (cBin opIx (cV 0) (cK (.int 1)))))))
  (sCons (sStore (cV 0) (cK (.int 1)) (cBin opAdd (cH (cBin opIx (cV 0) (cK (.int 1)))) (cK (.int 1))))
  (sCons (sStore (cV 0) (cK (.int 3)) (cBin opMod (cH (cCall (one fInt) (cCons (cH (cBin opAdd (cH (cBin opAdd (cH (cBin opMul (cH (cBin opIx (cV 0) (cK (.int 3)))) (cK (.int 69621)))) (cH (cBin opMul (cV 2) (cK (.int 48271)))))) (cK (.int 17)))) cNil))) (cK (.int 2147483629))))
  (sIf (cT (cBin opGe (cV 2) (cH (cBin opPow (cK (.int 10)) (cK (.int 18))))))
  (sStore (cV 0) (cK (.int 2)) (cV 2))
  sNil))))
  sNil)
  (sCons (sIf (cT (cBin opGt (cH (cBin opIx (cV 0) (cK (.int 2)))) (cK (.int 0))))
  (sCons (sSet 3 (cH (cBin opMod (cH (cCall (one fInt) (cCons (cH (cBin opIx (cV 0) (cK (.int 2)))) cNil))) (cV 1))))
  (sCons (sStore (cV 0) (cK (.int 2)) (cBin opDiv (cH (cBin opIx (cV 0) (cK (.int 2)))) (cV 1)))
  (sRet (cV 3))))
  sNil)
  (sCons (sStore (cV 0) (cK (.int 4)) (cBin opAdd (cH (cBin opIx (cV 0) (cK (.int 4)))) (cK (.int 1))))
  (sCons (sSet 4 (cH (cBin opMod (cH (cCall (one fInt) (cCons (cH (cBin opMul (cH (cCall (one fInt) (cCons (cH (cBin opAdd (cH (cBin opIx (cV 0) (cK (.int 3)))) (cH (cBin opMul (cK (.int 7919)) (cH (cBin opIx (cV 0) (cK (.int 4)))))))) cNil))) (cK (.int 40692)))) cNil))) (cK (.int 2147483647)))))
  (sCons (sSet 4 (cH (cBin opMod (cH (cCall (one fInt) (cCons (cH (cBin opMul (cV 4) (cH (cBin opAdd (cH (cBin opDiv (cV 4) (cK (.int 1009)))) (cK (.int 69621)))))) cNil))) (cK (.int 2147483647)))))
  (sCons (sSet 4 (cH (cBin opMod (cH (cCall (one fInt) (cCons (cH (cBin opMul (cV 4) (cH (cBin opAdd (cH (cBin opDiv (cV 4) (cK (.int 2003)))) (cK (.int 40014)))))) cNil))) (cK (.int 2147483563)))))
  (sRet (cBin opMod (cH (cCall (one fInt) (cCons (cH (cBin opDiv (cV 4) (cK (.int 16)))) cNil))) (cV 1)))))))))
def F__law_draw : Fn := fnOf 5 C__law_draw
theorem ok__law_draw {P : Program} {w : World} {K : PySem.W.Frag} {mg : Str → Option Value} {base : Heap} {T : Tb} {f : Addr} {fd : FuncData} (g : G mg) (F : Fun K "_law_draw" "_law_draw" st__law_draw f fd) (hm : mg "_law_draw" = some (.ref f)) (hb : Binds K fd ["hand", "many"] []) : Callee P w K mg base T "_law_draw" 2 1 F__law_draw := by
  have nd := sc__law_draw.nd
  exact Callee.mk' F sc__law_draw rfl hm hb fun cdv A outer s H E hr => (db_cons (ds_if (DU.t (du_and (dt_cmp (od_eqU hr.units) (DE.hold (de_ix ix_all (dw_var 0) dw_int)) dw_int) (du_and1 (dt_cmp od_lt (DE.hold (de_ix ix_all (dw_var 0) dw_int)) (DE.hold (de_callB cd_len g.n_len (da_cons (DE.hold (de_ix ix_all (dw_var 0) dw_int)) da_nil)))))))
  (db_cons (ds_set 2 nd (DE.hold (de_ix ix_all (DE.hold (de_ix ix_all (dw_var 0) dw_int)) (DE.hold (de_ix ix_all (dw_var 0) dw_int)))))
  (db_cons (ds_store (dw_var 0) dw_int (de_bin od_add (DE.hold (de_ix ix_all (dw_var 0) dw_int)) dw_int))
  (db_cons (ds_store (dw_var 0) dw_int (de_bin od_mod (DE.hold (de_callTy cd_int g.n_int (da_cons (DE.hold (de_bin od_add (DE.hold (de_bin od_add (DE.hold (de_bin (od_mul op_repL) (DE.hold (de_ix ix_all (dw_var 0) dw_int)) dw_int)) (DE.hold (de_bin (od_mul op_repL) (dw_var 2) dw_int)))) dw_int)) da_nil))) dw_int))
  (db_one (ds_if (dt_cmp od_ge (dw_var 2) (DE.hold (de_bin od_pow dw_int dw_int)))
  (db_one (ds_store (dw_var 0) dw_int (DW.toE (dw_var 2))))
  db_nil)))))
  db_nil)
  (db_cons (ds_if (dt_cmp od_gt (DE.hold (de_ix ix_all (dw_var 0) dw_int)) dw_int)
  (db_cons (ds_set 3 nd (DE.hold (de_bin od_mod (DE.hold (de_callTy cd_int g.n_int (da_cons (DE.hold (de_ix ix_all (dw_var 0) dw_int)) da_nil))) (dw_var 1))))
  (db_cons (ds_store (dw_var 0) dw_int (de_bin od_div (DE.hold (de_ix ix_all (dw_var 0) dw_int)) (dw_var 1)))
  (db_one (ds_ret (DW.toE (dw_var 3))))))
  db_nil)
  (db_cons (ds_store (dw_var 0) dw_int (de_bin od_add (DE.hold (de_ix ix_all (dw_var 0) dw_int)) dw_int))
  (db_cons (ds_set 4 nd (DE.hold (de_bin od_mod (DE.hold (de_callTy cd_int g.n_int (da_cons (DE.hold (de_bin (od_mul op_repL) (DE.hold (de_callTy cd_int g.n_int (da_cons (DE.hold (de_bin od_add (DE.hold (de_ix ix_all (dw_var 0) dw_int)) (DE.hold (de_bin (od_mul op_repL) dw_int (DE.hold (de_ix ix_all (dw_var 0) dw_int)))))) da_nil))) dw_int)) da_nil))) dw_int)))
  (db_cons (ds_set 4 nd (DE.hold (de_bin od_mod (DE.hold (de_callTy cd_int g.n_int (da_cons (DE.hold (de_bin (od_mul op_repL) (dw_var 4) (DE.hold (de_bin od_add (DE.hold (de_bin od_div (dw_var 4) dw_int)) dw_int)))) da_nil))) dw_int)))
  (db_cons (ds_set 4 nd (DE.hold (de_bin od_mod (DE.hold (de_callTy cd_int g.n_int (da_cons (DE.hold (de_bin (od_mul op_repL) (dw_var 4) (DE.hold (de_bin od_add (DE.hold (de_bin od_div (dw_var 4) dw_int)) dw_int)))) da_nil))) dw_int)))
  (db_one (ds_ret (de_bin od_mod (DE.hold (de_callTy cd_int g.n_int (da_cons (DE.hold (de_bin od_div (dw_var 4) dw_int)) da_nil))) (dw_var 1))))))))))
/-! ### _law_kit -/
abbrev st__law_kit : Stmt := topS 36
def N__law_kit : List Str := ["hand", "losses", "gives", "flow"]
theorem sc__law_kit : FnScope N__law_kit ["hand"] (defScope st__law_kit) := ⟨rfl, rfl, rfl, by decide +kernel, rfl, by decide +kernel, by decide +kernel⟩
def C__law_kit : SC :=
  (sCons (sPar 1 2 (cA (cCall opLst (cCons (cK (.int 0)) cNil))) (cA (cCall opLst (cCons (cD (cFn 2 F__law_draw (cCons (cV 0) (cCons (cK (.int 60)) cNil)))) cNil))))
  (sCons (sFor (iR1 (cH (cBin opAdd (cK (.int 1)) (cH (cFn 2 F__law_draw (cCons (cV 0) (cCons (cK (.int 5)) cNil))))))) (gN 3)
  (sCons (sExpr (cMt "list" mAppend (cV 1) (cCons (cD (cBin opAdd (cH (cBin opIx (cV 1) (cH (cNeg (cK (.int 1)))))) (cH (cFn 2 F__law_draw (cCons (cV 0) (cCons (cK (.int 7)) cNil)))))) cNil)))
  (sExpr (cMt "list" mAppend (cV 2) (cCons (cD (cCall fMax2 (cCons (cK (.int 0)) (cCons (cH (cBin opSub (cH (cBin opIx (cV 2) (cH (cNeg (cK (.int 1)))))) (cH (cFn 2 F__law_draw (cCons (cV 0) (cCons (cK (.int 10)) cNil)))))) cNil)))) cNil)))))
  (sRet (cCall opTup (cCons (cD (cCall (one fTup) (cCons (cV 1) cNil))) (cCons (cD (cCall (one fTup) (cCons (cV 2) cNil))) (cCons (cD (cFn 2 F__law_draw (cCons (cV 0) (cCons (cK (.int 9)) cNil)))) (cCons (cD (cBin opAdd (cK (.int 1)) (cH (cFn 2 F__law_draw (cCons (cV 0) (cCons (cK (.int 60)) cNil)))))) cNil))))))))
def F__law_kit : Fn := fnOf 4 C__law_kit
theorem ok__law_kit {P : Program} {w : World} {K : PySem.W.Frag} {mg : Str → Option Value} {base : Heap} {T : Tb} {f : Addr} {fd : FuncData} (g : G mg) (F : Fun K "_law_kit" "_law_kit" st__law_kit f fd) (hm : mg "_law_kit" = some (.ref f)) (hb : Binds K fd ["hand"] []) (G__law_draw : Callee P w K mg base T "_law_draw" 2 1 F__law_draw) : Callee P w K mg base T "_law_kit" 1 2 F__law_kit := by
  have nd := sc__law_kit.nd
  exact Callee.mk' F sc__law_kit rfl hm hb fun cdv A outer s H E hr => (db_cons (ds_par 1 2 nd (DE.adopt (de_lst (da_cons dw_int da_nil))) (DE.adopt (de_lst (da_cons (DE.data (de_fn G__law_draw hr (da_cons (dw_var 0) (da_cons dw_int da_nil)))) da_nil))))
  (db_cons (ds_for (di_range1 g.n_range (DE.hold (de_bin od_add dw_int (DE.hold (de_fn G__law_draw hr (da_cons (dw_var 0) (da_cons dw_int da_nil))))))) (dg_name 3 nd)
  (db_cons (ds_expr (de_mt md_append (dw_var 1) (da_cons (DE.data (de_bin od_add (DE.hold (de_ix ix_all (dw_var 1) (DE.hold (de_neg (DW.toE dw_int))))) (DE.hold (de_fn G__law_draw hr (da_cons (dw_var 0) (da_cons dw_int da_nil)))))) da_nil) PySem.F.plainAttrs_list PySem.F.slot_list_append PySem.F.type_list_append))
  (db_one (ds_expr (de_mt md_append (dw_var 2) (da_cons (DE.data (de_callB cd_max2 g.n_max (da_cons dw_int (da_cons (DE.hold (de_bin od_sub (DE.hold (de_ix ix_all (dw_var 2) (DE.hold (de_neg (DW.toE dw_int))))) (DE.hold (de_fn G__law_draw hr (da_cons (dw_var 0) (da_cons dw_int da_nil)))))) da_nil)))) da_nil) PySem.F.plainAttrs_list PySem.F.slot_list_append PySem.F.type_list_append)))))
  (db_one (ds_ret (de_tup (da_cons (DE.data (de_callTy cd_tuple g.n_tuple (da_cons (dw_var 1) da_nil))) (da_cons (DE.data (de_callTy cd_tuple g.n_tuple (da_cons (dw_var 2) da_nil))) (da_cons (DE.data (de_fn G__law_draw hr (da_cons (dw_var 0) (da_cons dw_int da_nil)))) (da_cons (DE.data (de_bin od_add dw_int (DE.hold (de_fn G__law_draw hr (da_cons (dw_var 0) (da_cons dw_int da_nil)))))) da_nil)))))))))
/-! ### _law_any -/
abbrev st__law_any : Stmt := topS 35
def N__law_any : List Str := ["hand", "some"]
theorem sc__law_any : FnScope N__law_any ["hand", "some"] (defScope st__law_any) := ⟨rfl, rfl, rfl, by decide +kernel, rfl, by decide +kernel, by decide +kernel⟩
def C__law_any : SC :=
  (sRet (cBin opIx (cV 1) (cH (cFn 2 F__law_draw (cCons (cV 0) (cCons (cH (cCall (one fLen) (cCons (cV 1) cNil))) cNil))))))
def F__law_any : Fn := fnOf 2 C__law_any
theorem ok__law_any {P : Program} {w : World} {K : PySem.W.Frag} {mg : Str → Option Value} {base : Heap} {T : Tb} {f : Addr} {fd : FuncData} (g : G mg) (F : Fun K "_law_any" "_law_any" st__law_any f fd) (hm : mg "_law_any" = some (.ref f)) (hb : Binds K fd ["hand", "some"] []) (G__law_draw : Callee P w K mg base T "_law_draw" 2 1 F__law_draw) : Callee P w K mg base T "_law_any" 2 2 F__law_any := by
  have nd := sc__law_any.nd
  exact Callee.mk' F sc__law_any rfl hm hb fun cdv A outer s H E hr => (db_one (ds_ret (de_ix ix_all (dw_var 1) (DE.hold (de_fn G__law_draw hr (da_cons (dw_var 0) (da_cons (DE.hold (de_callB cd_len g.n_len (da_cons (dw_var 1) da_nil))) da_nil)))))))
/-! ### _law_rises -/
abbrev st__law_rises : Stmt := topS 37
def N__law_rises : List Str := ["hand", "most", "found", "length"]
theorem sc__law_rises : FnScope N__law_rises ["hand", "most"] (defScope st__law_rises) := ⟨rfl, rfl, rfl, by decide +kernel, rfl, by decide +kernel, by decide +kernel⟩
def C__law_rises : SC :=
  (sCons (sSet 2 (cA (cCall opLst cNil)))
  (sCons (sFor (iR1 (cH (cBin opAdd (cK (.int 1)) (cH (cFn 2 F__law_draw (cCons (cV 0) (cCons (cV 1) cNil))))))) (gN 3)
  (sExpr (cMt "list" mAppend (cV 2) (cCons (cD (cFn 2 F__law_any (cCons (cV 0) (cCons (cH (cCall opLst (cCons (cK (.int 0)) (cCons (cK (.int 0)) (cCons (cK (.int 2)) (cCons (cK (.int 5)) (cCons (cD (cNeg (cK (.int 3)))) (cCons (cD (cBin opSub (cH (cFn 2 F__law_draw (cCons (cV 0) (cCons (cK (.int 21)) cNil)))) (cK (.int 10)))) cNil)))))))) cNil)))) cNil))))
  (sRet (cCall (one fTup) (cCons (cV 2) cNil)))))
def F__law_rises : Fn := fnOf 4 C__law_rises
theorem ok__law_rises {P : Program} {w : World} {K : PySem.W.Frag} {mg : Str → Option Value} {base : Heap} {T : Tb} {f : Addr} {fd : FuncData} (g : G mg) (F : Fun K "_law_rises" "_law_rises" st__law_rises f fd) (hm : mg "_law_rises" = some (.ref f)) (hb : Binds K fd ["hand", "most"] []) (G__law_draw : Callee P w K mg base T "_law_draw" 2 1 F__law_draw) (G__law_any : Callee P w K mg base T "_law_any" 2 2 F__law_any) : Callee P w K mg base T "_law_rises" 2 3 F__law_rises := by
  have nd := sc__law_rises.nd
  exact Callee.mk' F sc__law_rises rfl hm hb fun cdv A outer s H E hr => (db_cons (ds_set 2 nd (DE.adopt (de_lst da_nil)))
  (db_cons (ds_for (di_range1 g.n_range (DE.hold (de_bin od_add dw_int (DE.hold (de_fn G__law_draw hr (da_cons (dw_var 0) (da_cons (dw_var 1) da_nil))))))) (dg_name 3 nd)
  (db_one (ds_expr (de_mt md_append (dw_var 2) (da_cons (DE.data (de_fn G__law_any hr (da_cons (dw_var 0) (da_cons (DE.hold (de_lst (da_cons dw_int (da_cons dw_int (da_cons dw_int (da_cons dw_int (da_cons (DE.data (de_neg (DW.toE dw_int))) (da_cons (DE.data (de_bin od_sub (DE.hold (de_fn G__law_draw hr (da_cons (dw_var 0) (da_cons dw_int da_nil)))) dw_int)) da_nil)))))))) da_nil)))) da_nil) PySem.F.plainAttrs_list PySem.F.slot_list_append PySem.F.type_list_append))))
  (db_one (ds_ret (de_callTy cd_tuple g.n_tuple (da_cons (dw_var 2) da_nil))))))
/-! ### is_integer -/
abbrev st_is_integer : Stmt := topS 1
def N_is_integer : List Str := ["thing"]
theorem sc_is_integer : FnScope N_is_integer ["thing"] (defScope st_is_integer) := ⟨rfl, rfl, rfl, by decide +kernel, rfl, by decide +kernel, by decide +kernel⟩
def C_is_integer : SC :=
  (sRet (cAndV (cIsi "int" (cV 0)) (cNotV (cIsi "bool" (cV 0)))))
def F_is_integer : Fn := fnOf 1 C_is_integer
theorem ok_is_integer {P : Program} {w : World} {K : PySem.W.Frag} {mg : Str → Option Value} {base : Heap} {T : Tb} {f : Addr} {fd : FuncData} (g : G mg) (F : Fun K "is_integer" "is_integer" st_is_integer f fd) (hm : mg "is_integer" = some (.ref f)) (hb : Binds K fd ["thing"] []) : Callee P w K mg base T "is_integer" 1 1 F_is_integer := by
  have nd := sc_is_integer.nd
  exact Callee.mk' F sc_is_integer rfl hm hb fun cdv A outer s H E hr => (db_one (ds_ret (de_and (de_isi (dw_var 0) g.n_isinstance g.n_int (by decide +kernel)) (de_one (de_not (de_isi (dw_var 0) g.n_isinstance g.n_bool (by decide +kernel)))))))
/-! ### is_within -/
abbrev st_is_within : Stmt := topS 2
def N_is_within : List Str := ["thing", "low", "high"]
theorem sc_is_within : FnScope N_is_within ["thing", "low", "high"] (defScope st_is_within) := ⟨rfl, rfl, rfl, by decide +kernel, rfl, by decide +kernel, by decide +kernel⟩
def C_is_within : SC :=
  (sRet (cAndV (cFn 1 F_is_integer (cCons (cV 0) cNil)) (cChain opLe opLe (cV 1) (cV 0) (cV 2))))
def F_is_within : Fn := fnOf 3 C_is_within
theorem ok_is_within {P : Program} {w : World} {K : PySem.W.Frag} {mg : Str → Option Value} {base : Heap} {T : Tb} {f : Addr} {fd : FuncData} (g : G mg) (F : Fun K "is_within" "is_within" st_is_within f fd) (hm : mg "is_within" = some (.ref f)) (hb : Binds K fd ["thing", "low", "high"] []) (G_is_integer : Callee P w K mg base T "is_integer" 1 1 F_is_integer) : Callee P w K mg base T "is_within" 3 2 F_is_within := by
  have nd := sc_is_within.nd
  exact Callee.mk' F sc_is_within rfl hm hb fun cdv A outer s H E hr => (db_one (ds_ret (de_and (de_fn G_is_integer hr (da_cons (dw_var 0) da_nil)) (de_one (de_chain od_le od_le (dw_var 1) (dw_var 0) (dw_var 2))))))
/-! ### is_sized -/
abbrev st_is_sized : Stmt := topS 3
def N_is_sized : List Str := ["thing", "low", "high"]
theorem sc_is_sized : FnScope N_is_sized ["thing", "low", "high"] (defScope st_is_sized) := ⟨rfl, rfl, rfl, by decide +kernel, rfl, by decide +kernel, by decide +kernel⟩
def C_is_sized : SC :=
  (sRet (cAndV (cIsi "tuple" (cV 0)) (cChain opLe opLe (cV 1) (cH (cCall (one fLen) (cCons (cV 0) cNil))) (cV 2))))
def F_is_sized : Fn := fnOf 3 C_is_sized
theorem ok_is_sized {P : Program} {w : World} {K : PySem.W.Frag} {mg : Str → Option Value} {base : Heap} {T : Tb} {f : Addr} {fd : FuncData} (g : G mg) (F : Fun K "is_sized" "is_sized" st_is_sized f fd) (hm : mg "is_sized" = some (.ref f)) (hb : Binds K fd ["thing", "low", "high"] []) : Callee P w K mg base T "is_sized" 3 1 F_is_sized := by
  have nd := sc_is_sized.nd
  exact Callee.mk' F sc_is_sized rfl hm hb fun cdv A outer s H E hr => (db_one (ds_ret (de_and (de_isi (dw_var 0) g.n_isinstance g.n_tuple (by decide +kernel)) (de_one (de_chain od_le od_le (dw_var 1) (DE.hold (de_callB cd_len g.n_len (da_cons (dw_var 0) da_nil))) (dw_var 2))))))
/-! ### are_pressures -/
abbrev st_are_pressures : Stmt := topS 19
def N_are_pressures : List Str := ["thing", "one"]
theorem sc_are_pressures : FnScope N_are_pressures ["thing"] (defScope st_are_pressures) := ⟨rfl, rfl, rfl, by decide +kernel, rfl, by decide +kernel, by decide +kernel⟩
def C_are_pressures : SC :=
  (sRet (cAndV (cFn 3 F_is_sized (cCons (cV 0) (cCons (cK (.int 2)) (cCons (cK (.int 41)) cNil)))) (cCall (one (fBools fun bs => bs.all id)) (cCons (cH (cLc (iAny (cV 0)) [1] (gN 1) cYes (cFn 3 F_is_within (cCons (cV 1) (cCons (cK (.int 0)) (cCons (cK (.int 1000)) cNil)))))) cNil))))
def F_are_pressures : Fn := fnOf 2 C_are_pressures
theorem ok_are_pressures {P : Program} {w : World} {K : PySem.W.Frag} {mg : Str → Option Value} {base : Heap} {T : Tb} {f : Addr} {fd : FuncData} (g : G mg) (F : Fun K "are_pressures" "are_pressures" st_are_pressures f fd) (hm : mg "are_pressures" = some (.ref f)) (hb : Binds K fd ["thing"] []) (G_is_sized : Callee P w K mg base T "is_sized" 3 1 F_is_sized) (G_is_within : Callee P w K mg base T "is_within" 3 2 F_is_within) : Callee P w K mg base T "are_pressures" 1 3 F_are_pressures := by
  have nd := sc_are_pressures.nd
  exact Callee.mk' F sc_are_pressures rfl hm hb fun cdv A outer s H E hr => (db_one (ds_ret (de_and (de_fn G_is_sized hr (da_cons (dw_var 0) (da_cons (let ⟨_, h⟩ := g.i_LEAST_FLOWS; dw_gInt h) (da_cons (let ⟨_, h⟩ := g.i_MOST_FLOWS; dw_gInt h) da_nil)))) (de_one (de_callB cd_all g.n_all (da_cons (DE.hold (de_lc nd (di_any (dw_var 0)) (blkOk_by (own := [("one", 1)]) (by kernel_rfl)) (fun _ _ _ _ _ => (dg_name 1 nd)) (fun _ _ _ _ _ => dts_nil) (fun _ _ _ _ _ => (de_fn G_is_within hr (da_cons (dw_var 1) (da_cons dw_int (da_cons (let ⟨_, h⟩ := g.i_MOST_PRESSURE; dw_gInt h) da_nil))))))) da_nil))))))
/-! ### is_kit -/
abbrev st_is_kit : Stmt := topS 20
def N_is_kit : List Str := ["thing", "losses", "gives", "inlet", "burst", "one", "other"]
theorem sc_is_kit : FnScope N_is_kit ["thing"] (defScope st_is_kit) := ⟨rfl, rfl, rfl, by decide +kernel, rfl, by decide +kernel, by decide +kernel⟩
def C_is_kit : SC :=
  (sCons (sIf (cOrT (cNotT (cT (cFn 3 F_is_sized (cCons (cV 0) (cCons (cK (.int 4)) (cCons (cK (.int 4)) cNil)))))) (cOrT (cNotT (cT (cFn 1 F_are_pressures (cCons (cH (cBin opIx (cV 0) (cK (.int 0)))) cNil)))) (cNotT (cT (cFn 1 F_are_pressures (cCons (cH (cBin opIx (cV 0) (cK (.int 1)))) cNil))))))
  (sRet (cK (.bool false)))
  sNil)
  (sCons (sAsg (gT (gsC (gN 1) (gsC (gN 2) (gsC (gN 3) (gsC (gN 4) gsN))))) (cV 0))
  (sCons (sIf (cOrT (cT (cBin (opEq true) (cH (cCall (one fLen) (cCons (cV 1) cNil))) (cH (cCall (one fLen) (cCons (cV 2) cNil))))) (cT (cBin (opEq true) (cH (cBin opIx (cV 1) (cK (.int 0)))) (cK (.int 0)))))
  (sRet (cK (.bool false)))
  sNil)
  (sCons (sIf (cNotT (cT (cCall (one (fBools fun bs => bs.all id)) (cCons (cH (cLc (iZp (cCons (cV 1) (cCons (cH (cSl (cV 1) (cPart (cK (.int 1))) cNoPart)) cNil))) [5, 6] (gT (gsC (gN 5) (gsC (gN 6) gsN))) cYes (cBin opLe (cV 5) (cV 6)))) cNil))))
  (sRet (cK (.bool false)))
  sNil)
  (sCons (sIf (cNotT (cT (cCall (one (fBools fun bs => bs.all id)) (cCons (cH (cLc (iZp (cCons (cV 2) (cCons (cH (cSl (cV 2) (cPart (cK (.int 1))) cNoPart)) cNil))) [5, 6] (gT (gsC (gN 5) (gsC (gN 6) gsN))) cYes (cBin opGe (cV 5) (cV 6)))) cNil))))
  (sRet (cK (.bool false)))
  sNil)
  (sRet (cAndV (cFn 3 F_is_within (cCons (cV 3) (cCons (cK (.int 0)) (cCons (cK (.int 1000)) cNil)))) (cFn 3 F_is_within (cCons (cV 4) (cCons (cK (.int 1)) (cCons (cK (.int 1000)) cNil)))))))))))
def F_is_kit : Fn := fnOf 7 C_is_kit
theorem ok_is_kit {P : Program} {w : World} {K : PySem.W.Frag} {mg : Str → Option Value} {base : Heap} {T : Tb} {f : Addr} {fd : FuncData} (g : G mg) (F : Fun K "is_kit" "is_kit" st_is_kit f fd) (hm : mg "is_kit" = some (.ref f)) (hb : Binds K fd ["thing"] []) (G_is_sized : Callee P w K mg base T "is_sized" 3 1 F_is_sized) (G_are_pressures : Callee P w K mg base T "are_pressures" 1 3 F_are_pressures) (G_is_within : Callee P w K mg base T "is_within" 3 2 F_is_within) : Callee P w K mg base T "is_kit" 1 4 F_is_kit := by
  have nd := sc_is_kit.nd
  exact Callee.mk' F sc_is_kit rfl hm hb fun cdv A outer s H E hr => (db_cons (ds_if (DU.t (du_or (dt_not (dt_val (de_fn G_is_sized hr (da_cons (dw_var 0) (da_cons dw_int (da_cons dw_int da_nil)))))) (du_or (dt_not (dt_val (de_fn G_are_pressures hr (da_cons (DE.hold (de_ix ix_all (dw_var 0) dw_int)) da_nil)))) (du_or1 (dt_not (dt_val (de_fn G_are_pressures hr (da_cons (DE.hold (de_ix ix_all (dw_var 0) dw_int)) da_nil))))))))
  (db_one (ds_ret (DW.toE dw_bl)))
  db_nil)
  (db_cons (ds_asg (DW.toE (dw_var 0)) (dg_tup (dgs_cons (dg_name 1 nd) (dgs_cons (dg_name 2 nd) (dgs_cons (dg_name 3 nd) (dgs_cons (dg_name 4 nd) dgs_nil)))) (n := 4) (hg := (gsC_len (gsC_len (gsC_len (gsC_len gsN_len)))))))
  (db_cons (ds_if (DU.t (du_or (dt_cmp (od_neU hr.units) (DE.hold (de_callB cd_len g.n_len (da_cons (dw_var 1) da_nil))) (DE.hold (de_callB cd_len g.n_len (da_cons (dw_var 2) da_nil)))) (du_or1 (dt_cmp (od_neU hr.units) (DE.hold (de_ix ix_all (dw_var 1) dw_int)) dw_int))))
  (db_one (ds_ret (DW.toE dw_bl)))
  db_nil)
  (db_cons (ds_if (dt_not (dt_val (de_callB cd_all g.n_all (da_cons (DE.hold (de_lc nd (di_zip g.n_zip (da_cons (dw_var 1) (da_cons (DE.hold (de_sl (dw_var 1) (dp_some (DW.toE dw_int)) dp_none)) da_nil))) (blkOk_by (own := [("one", 5), ("other", 6)]) (by kernel_rfl)) (fun _ _ _ _ _ => (dg_tup (dgs_cons (dg_name 5 nd) (dgs_cons (dg_name 6 nd) dgs_nil)) (n := 2) (hg := (gsC_len (gsC_len gsN_len))))) (fun _ _ _ _ _ => dts_nil) (fun _ _ _ _ _ => (de_cmp od_le (dw_var 5) (dw_var 6))))) da_nil))))
  (db_one (ds_ret (DW.toE dw_bl)))
  db_nil)
  (db_cons (ds_if (dt_not (dt_val (de_callB cd_all g.n_all (da_cons (DE.hold (de_lc nd (di_zip g.n_zip (da_cons (dw_var 2) (da_cons (DE.hold (de_sl (dw_var 2) (dp_some (DW.toE dw_int)) dp_none)) da_nil))) (blkOk_by (own := [("one", 5), ("other", 6)]) (by kernel_rfl)) (fun _ _ _ _ _ => (dg_tup (dgs_cons (dg_name 5 nd) (dgs_cons (dg_name 6 nd) dgs_nil)) (n := 2) (hg := (gsC_len (gsC_len gsN_len))))) (fun _ _ _ _ _ => dts_nil) (fun _ _ _ _ _ => (de_cmp od_ge (dw_var 5) (dw_var 6))))) da_nil))))
  (db_one (ds_ret (DW.toE dw_bl)))
  db_nil)
  (db_one (ds_ret (de_and (de_fn G_is_within hr (da_cons (dw_var 3) (da_cons dw_int (da_cons (let ⟨_, h⟩ := g.i_MOST_PRESSURE; dw_gInt h) da_nil)))) (de_one (de_fn G_is_within hr (da_cons (dw_var 4) (da_cons dw_int (da_cons (let ⟨_, h⟩ := g.i_MOST_PRESSURE; dw_gInt h) da_nil)))))))))))))
/-! ### _law_stretch -/
abbrev st__law_stretch : Stmt := topS 38
def N__law_stretch : List Str := ["asked", "one", "other", "due", "kit", "rises", "flow", "loss", "low", "high", "drop", "spot"]
theorem sc__law_stretch : FnScope N__law_stretch ["asked", "one", "other", "due"] (defScope st__law_stretch) := ⟨rfl, rfl, rfl, by decide +kernel, rfl, by decide +kernel, by decide +kernel⟩
def C__law_stretch : SC :=
  (sCons (sAsg (gT (gsC (gN 4) (gsC (gN 5) (gsC (gN 6) (gsC (gN 7) gsN))))) (cV 0))
  (sCons (sPar3 8 9 10 (cK (.int 0)) (cH (cCall fMin2 (cCons (cH (cBin opIx (cH (cBin opIx (cV 4) (cK (.int 1)))) (cV 6))) (cCons (cH (cBin opIx (cV 4) (cK (.int 3)))) cNil)))) (cK (.int 0)))
  (sCons (sFor (iR2 (cCons (cV 1) (cCons (cV 2) cNil))) (gN 11)
  (sCons (sSet 10 (cH (cBin opAdd (cH (cBin opAdd (cV 10) (cV 7))) (cH (cBin opIx (cV 5) (cV 11))))))
  (sPar 8 9 (cH (cCall fMax2 (cCons (cV 8) (cCons (cV 10) cNil)))) (cH (cCall fMin2 (cCons (cV 9) (cCons (cH (cBin opAdd (cH (cBin opIx (cV 4) (cK (.int 3)))) (cV 10))) cNil)))))))
  (sCons (sSet 8 (cH (cCall fMax2 (cCons (cV 8) (cCons (cH (cBin opAdd (cV 3) (cV 10))) cNil)))))
  (sRet (cIf (cT (cBin opLe (cV 8) (cV 9))) (cCall opTup (cCons (cV 8) (cCons (cV 9) cNil))) (cK .none)))))))
def F__law_stretch : Fn := fnOf 12 C__law_stretch
theorem ok__law_stretch {P : Program} {w : World} {K : PySem.W.Frag} {mg : Str → Option Value} {base : Heap} {T : Tb} {f : Addr} {fd : FuncData} (g : G mg) (F : Fun K "_law_stretch" "_law_stretch" st__law_stretch f fd) (hm : mg "_law_stretch" = some (.ref f)) (hb : Binds K fd ["asked", "one", "other", "due"] []) : Callee P w K mg base T "_law_stretch" 4 1 F__law_stretch := by
  have nd := sc__law_stretch.nd
  exact Callee.mk' F sc__law_stretch rfl hm hb fun cdv A outer s H E hr => (db_cons (ds_asg (DW.toE (dw_var 0)) (dg_tup (dgs_cons (dg_name 4 nd) (dgs_cons (dg_name 5 nd) (dgs_cons (dg_name 6 nd) (dgs_cons (dg_name 7 nd) dgs_nil)))) (n := 4) (hg := (gsC_len (gsC_len (gsC_len (gsC_len gsN_len)))))))
  (db_cons (ds_par3 8 9 10 nd dw_int (DE.hold (de_callB cd_min2 g.n_min (da_cons (DE.hold (de_ix ix_all (DE.hold (de_ix ix_all (dw_var 4) dw_int)) (dw_var 6))) (da_cons (DE.hold (de_ix ix_all (dw_var 4) dw_int)) da_nil)))) dw_int)
  (db_cons (ds_for (di_range2 g.n_range (da_cons (dw_var 1) (da_cons (dw_var 2) da_nil))) (dg_name 11 nd)
  (db_cons (ds_set 10 nd (DE.hold (de_bin od_add (DE.hold (de_bin od_add (dw_var 10) (dw_var 7))) (DE.hold (de_ix ix_all (dw_var 5) (dw_var 11))))))
  (db_one (ds_par 8 9 nd (DE.hold (de_callB cd_max2 g.n_max (da_cons (dw_var 8) (da_cons (dw_var 10) da_nil)))) (DE.hold (de_callB cd_min2 g.n_min (da_cons (dw_var 9) (da_cons (DE.hold (de_bin od_add (DE.hold (de_ix ix_all (dw_var 4) dw_int)) (dw_var 10))) da_nil))))))))
  (db_cons (ds_set 8 nd (DE.hold (de_callB cd_max2 g.n_max (da_cons (dw_var 8) (da_cons (DE.hold (de_bin od_add (dw_var 3) (dw_var 10))) da_nil)))))
  (db_one (ds_ret (de_if (dt_cmp od_le (dw_var 8) (dw_var 9)) (de_tup (da_cons (dw_var 8) (da_cons (dw_var 9) da_nil))) (DW.toE dw_non))))))))
/-! ### check_kit -/
abbrev st_check_kit : Stmt := topS 21
def N_check_kit : List Str := ["kit"]
theorem sc_check_kit : FnScope N_check_kit ["kit"] (defScope st_check_kit) := ⟨rfl, rfl, rfl, by decide +kernel, rfl, by decide +kernel, by decide +kernel⟩
def C_check_kit : SC :=
  (sIf (cNotT (cT (cFn 1 F_is_kit (cCons (cV 0) cNil))))
  (sRaise "NoKit")
  sNil)
def F_check_kit : Fn := fnOf 1 C_check_kit
theorem ok_check_kit {P : Program} {w : World} {K : PySem.W.Frag} {mg : Str → Option Value} {base : Heap} {T : Tb} {f : Addr} {fd : FuncData} (g : G mg) (F : Fun K "check_kit" "check_kit" st_check_kit f fd) (hm : mg "check_kit" = some (.ref f)) (hb : Binds K fd ["kit"] []) (G_is_kit : Callee P w K mg base T "is_kit" 1 4 F_is_kit) (e_NoKit : Exc0 K mg "NoKit") : Callee P w K mg base T "check_kit" 1 5 F_check_kit := by
  have nd := sc_check_kit.nd
  exact Callee.mk' F sc_check_kit rfl hm hb fun cdv A outer s H E hr => (db_one (ds_if (dt_not (dt_val (de_fn G_is_kit hr (da_cons (dw_var 0) da_nil))))
  (db_one (ds_raise e_NoKit))
  db_nil))
/-! ### check_rises -/
abbrev st_check_rises : Stmt := topS 23
def N_check_rises : List Str := ["rises", "one"]
theorem sc_check_rises : FnScope N_check_rises ["rises"] (defScope st_check_rises) := ⟨rfl, rfl, rfl, by decide +kernel, rfl, by decide +kernel, by decide +kernel⟩
def C_check_rises : SC :=
  (sIf (cOrT (cNotT (cT (cFn 3 F_is_sized (cCons (cV 0) (cCons (cK (.int 1)) (cCons (cK (.int 20)) cNil)))))) (cNotT (cT (cCall (one (fBools fun bs => bs.all id)) (cCons (cH (cLc (iAny (cV 0)) [1] (gN 1) cYes (cFn 3 F_is_within (cCons (cV 1) (cCons (cH (cNeg (cK (.int 100)))) (cCons (cK (.int 100)) cNil)))))) cNil)))))
  (sRaise "NoRises")
  sNil)
def F_check_rises : Fn := fnOf 2 C_check_rises
theorem ok_check_rises {P : Program} {w : World} {K : PySem.W.Frag} {mg : Str → Option Value} {base : Heap} {T : Tb} {f : Addr} {fd : FuncData} (g : G mg) (F : Fun K "check_rises" "check_rises" st_check_rises f fd) (hm : mg "check_rises" = some (.ref f)) (hb : Binds K fd ["rises"] []) (G_is_sized : Callee P w K mg base T "is_sized" 3 1 F_is_sized) (G_is_within : Callee P w K mg base T "is_within" 3 2 F_is_within) (e_NoRises : Exc0 K mg "NoRises") : Callee P w K mg base T "check_rises" 1 3 F_check_rises := by
  have nd := sc_check_rises.nd
  exact Callee.mk' F sc_check_rises rfl hm hb fun cdv A outer s H E hr => (db_one (ds_if (DU.t (du_or (dt_not (dt_val (de_fn G_is_sized hr (da_cons (dw_var 0) (da_cons dw_int (da_cons (let ⟨_, h⟩ := g.i_MOST_RISES; dw_gInt h) da_nil)))))) (du_or1 (dt_not (dt_val (de_callB cd_all g.n_all (da_cons (DE.hold (de_lc nd (di_any (dw_var 0)) (blkOk_by (own := [("one", 1)]) (by kernel_rfl)) (fun _ _ _ _ _ => (dg_name 1 nd)) (fun _ _ _ _ _ => dts_nil) (fun _ _ _ _ _ => (de_fn G_is_within hr (da_cons (dw_var 1) (da_cons (DE.hold (de_neg (DW.toE (let ⟨_, h⟩ := g.i_MOST_RISE; dw_gInt h)))) (da_cons (let ⟨_, h⟩ := g.i_MOST_RISE; dw_gInt h) da_nil))))))) da_nil)))))))
  (db_one (ds_raise e_NoRises))
  db_nil))
/-! ### check_flow -/
abbrev st_check_flow : Stmt := topS 22
def N_check_flow : List Str := ["kit", "flow"]
theorem sc_check_flow : FnScope N_check_flow ["kit", "flow"] (defScope st_check_flow) := ⟨rfl, rfl, rfl, by decide +kernel, rfl, by decide +kernel, by decide +kernel⟩
def C_check_flow : SC :=
  (sIf (cNotT (cT (cFn 3 F_is_within (cCons (cV 1) (cCons (cK (.int 0)) (cCons (cH (cBin opSub (cH (cCall (one fLen) (cCons (cH (cBin opIx (cV 0) (cK (.int 0)))) cNil))) (cK (.int 1)))) cNil))))))
  (sRaise "NoFlow")
  sNil)
def F_check_flow : Fn := fnOf 2 C_check_flow
theorem ok_check_flow {P : Program} {w : World} {K : PySem.W.Frag} {mg : Str → Option Value} {base : Heap} {T : Tb} {f : Addr} {fd : FuncData} (g : G mg) (F : Fun K "check_flow" "check_flow" st_check_flow f fd) (hm : mg "check_flow" = some (.ref f)) (hb : Binds K fd ["kit", "flow"] []) (G_is_within : Callee P w K mg base T "is_within" 3 2 F_is_within) (e_NoFlow : Exc0 K mg "NoFlow") : Callee P w K mg base T "check_flow" 2 3 F_check_flow := by
  have nd := sc_check_flow.nd
  exact Callee.mk' F sc_check_flow rfl hm hb fun cdv A outer s H E hr => (db_one (ds_if (dt_not (dt_val (de_fn G_is_within hr (da_cons (dw_var 1) (da_cons dw_int (da_cons (DE.hold (de_bin od_sub (DE.hold (de_callB cd_len g.n_len (da_cons (DE.hold (de_ix ix_all (dw_var 0) dw_int)) da_nil))) dw_int)) da_nil))))))
  (db_one (ds_raise e_NoFlow))
  db_nil))
/-! ### check_line_of -/
abbrev st_check_line_of : Stmt := topS 25
def N_check_line_of : List Str := ["kit", "rises", "flow"]
theorem sc_check_line_of : FnScope N_check_line_of ["kit", "rises", "flow"] (defScope st_check_line_of) := ⟨rfl, rfl, rfl, by decide +kernel, rfl, by decide +kernel, by decide +kernel⟩
def C_check_line_of : SC :=
  (sCons (sExpr (cFn 1 F_check_kit (cCons (cV 0) cNil)))
  (sCons (sExpr (cFn 1 F_check_rises (cCons (cV 1) cNil)))
  (sExpr (cFn 2 F_check_flow (cCons (cV 0) (cCons (cV 2) cNil))))))
def F_check_line_of : Fn := fnOf 3 C_check_line_of
theorem ok_check_line_of {P : Program} {w : World} {K : PySem.W.Frag} {mg : Str → Option Value} {base : Heap} {T : Tb} {f : Addr} {fd : FuncData} (g : G mg) (F : Fun K "check_line_of" "check_line_of" st_check_line_of f fd) (hm : mg "check_line_of" = some (.ref f)) (hb : Binds K fd ["kit", "rises", "flow"] []) (G_check_kit : Callee P w K mg base T "check_kit" 1 5 F_check_kit) (G_check_rises : Callee P w K mg base T "check_rises" 1 3 F_check_rises) (G_check_flow : Callee P w K mg base T "check_flow" 2 3 F_check_flow) : Callee P w K mg base T "check_line_of" 3 6 F_check_line_of := by
  have nd := sc_check_line_of.nd
  exact Callee.mk' F sc_check_line_of rfl hm hb fun cdv A outer s H E hr => (db_cons (ds_expr (de_fn G_check_kit hr (da_cons (dw_var 0) da_nil)))
  (db_cons (ds_expr (de_fn G_check_rises hr (da_cons (dw_var 1) da_nil)))
  (db_one (ds_expr (de_fn G_check_flow hr (da_cons (dw_var 0) (da_cons (dw_var 2) da_nil)))))))
/-! ### check_pressure -/
abbrev st_check_pressure : Stmt := topS 24
def N_check_pressure : List Str := ["due"]
theorem sc_check_pressure : FnScope N_check_pressure ["due"] (defScope st_check_pressure) := ⟨rfl, rfl, rfl, by decide +kernel, rfl, by decide +kernel, by decide +kernel⟩
def C_check_pressure : SC :=
  (sIf (cNotT (cT (cFn 3 F_is_within (cCons (cV 0) (cCons (cK (.int 0)) (cCons (cK (.int 1000)) cNil))))))
  (sRaise "NoDue")
  sNil)
def F_check_pressure : Fn := fnOf 1 C_check_pressure
theorem ok_check_pressure {P : Program} {w : World} {K : PySem.W.Frag} {mg : Str → Option Value} {base : Heap} {T : Tb} {f : Addr} {fd : FuncData} (g : G mg) (F : Fun K "check_pressure" "check_pressure" st_check_pressure f fd) (hm : mg "check_pressure" = some (.ref f)) (hb : Binds K fd ["due"] []) (G_is_within : Callee P w K mg base T "is_within" 3 2 F_is_within) (e_NoDue : Exc0 K mg "NoDue") : Callee P w K mg base T "check_pressure" 1 3 F_check_pressure := by
  have nd := sc_check_pressure.nd
  exact Callee.mk' F sc_check_pressure rfl hm hb fun cdv A outer s H E hr => (db_one (ds_if (dt_not (dt_val (de_fn G_is_within hr (da_cons (dw_var 0) (da_cons dw_int (da_cons (let ⟨_, h⟩ := g.i_MOST_PRESSURE; dw_gInt h) da_nil))))))
  (db_one (ds_raise e_NoDue))
  db_nil))
/-! ### sums_on -/
abbrev st_sums_on : Stmt := topS 28
def N_sums_on : List Str := ["rises", "loss", "one", "other", "found", "rise"]
theorem sc_sums_on : FnScope N_sums_on ["rises", "loss", "one", "other"] (defScope st_sums_on) := ⟨rfl, rfl, rfl, by decide +kernel, rfl, by decide +kernel, by decide +kernel⟩
def C_sums_on : SC :=
  (sCons (sSet 4 (cA (cCall opLst (cCons (cK (.int 0)) cNil))))
  (sCons (sFor (iAny (cH (cSl (cV 0) (cPart (cV 2)) (cPart (cV 3))))) (gN 5)
  (sExpr (cMt "list" mAppend (cV 4) (cCons (cD (cBin opAdd (cH (cBin opAdd (cH (cBin opIx (cV 4) (cH (cNeg (cK (.int 1)))))) (cV 5))) (cV 1))) cNil))))
  (sRet (cV 4))))
def F_sums_on : Fn := fnOf 6 C_sums_on
theorem ok_sums_on {P : Program} {w : World} {K : PySem.W.Frag} {mg : Str → Option Value} {base : Heap} {T : Tb} {f : Addr} {fd : FuncData} (g : G mg) (F : Fun K "sums_on" "sums_on" st_sums_on f fd) (hm : mg "sums_on" = some (.ref f)) (hb : Binds K fd ["rises", "loss", "one", "other"] []) : Callee P w K mg base T "sums_on" 4 1 F_sums_on := by
  have nd := sc_sums_on.nd
  exact Callee.mk' F sc_sums_on rfl hm hb fun cdv A outer s H E hr => (db_cons (ds_set 4 nd (DE.adopt (de_lst (da_cons dw_int da_nil))))
  (db_cons (ds_for (di_any (DE.hold (de_sl (dw_var 0) (dp_some (DW.toE (dw_var 2))) (dp_some (DW.toE (dw_var 3)))))) (dg_name 5 nd)
  (db_one (ds_expr (de_mt md_append (dw_var 4) (da_cons (DE.data (de_bin od_add (DE.hold (de_bin od_add (DE.hold (de_ix ix_all (dw_var 4) (DE.hold (de_neg (DW.toE dw_int))))) (dw_var 5))) (dw_var 1))) da_nil) PySem.F.plainAttrs_list PySem.F.slot_list_append PySem.F.type_list_append))))
  (db_one (ds_ret (DW.toE (dw_var 4))))))
/-! ### raw_loss -/
abbrev st_raw_loss : Stmt := topS 26
def N_raw_loss : List Str := ["kit", "flow", "lines"]
theorem sc_raw_loss : FnScope N_raw_loss ["kit", "flow", "lines"] (defScope st_raw_loss) := ⟨rfl, rfl, rfl, by decide +kernel, rfl, by decide +kernel, by decide +kernel⟩
def C_raw_loss : SC :=
  (sRet (cBin opIx (cH (cBin opIx (cV 0) (cK (.int 0)))) (cH (cBin opDiv (cH (cBin opSub (cH (cBin opAdd (cV 1) (cV 2))) (cK (.int 1)))) (cV 2)))))
def F_raw_loss : Fn := fnOf 3 C_raw_loss
theorem ok_raw_loss {P : Program} {w : World} {K : PySem.W.Frag} {mg : Str → Option Value} {base : Heap} {T : Tb} {f : Addr} {fd : FuncData} (g : G mg) (F : Fun K "raw_loss" "raw_loss" st_raw_loss f fd) (hm : mg "raw_loss" = some (.ref f)) (hb : Binds K fd ["kit", "flow", "lines"] []) : Callee P w K mg base T "raw_loss" 3 1 F_raw_loss := by
  have nd := sc_raw_loss.nd
  exact Callee.mk' F sc_raw_loss rfl hm hb fun cdv A outer s H E hr => (db_one (ds_ret (de_ix ix_all (DE.hold (de_ix ix_all (dw_var 0) dw_int)) (DE.hold (de_bin od_div (DE.hold (de_bin od_sub (DE.hold (de_bin od_add (dw_var 1) (dw_var 2))) dw_int)) (dw_var 2))))))
/-! ### raw_stretch -/
abbrev st_raw_stretch : Stmt := topS 29
def N_raw_stretch : List Str := ["kit", "rises", "flow", "lines", "one", "other", "due", "sums", "least", "most"]
theorem sc_raw_stretch : FnScope N_raw_stretch ["kit", "rises", "flow", "lines", "one", "other", "due"] (defScope st_raw_stretch) := ⟨rfl, rfl, rfl, by decide +kernel, rfl, by decide +kernel, by decide +kernel⟩
def C_raw_stretch : SC :=
  (sCons (sSet 7 (cH (cFn 4 F_sums_on (cCons (cV 1) (cCons (cH (cFn 3 F_raw_loss (cCons (cV 0) (cCons (cV 2) (cCons (cV 3) cNil))))) (cCons (cV 4) (cCons (cV 5) cNil)))))))
  (sCons (sSet 8 (cH (cCall fMax2 (cCons (cH (cCall (one (fBest max)) (cCons (cV 7) cNil))) (cCons (cH (cBin opAdd (cH (cBin opIx (cV 7) (cH (cNeg (cK (.int 1)))))) (cV 6))) cNil)))))
  (sCons (sSet 9 (cH (cCall fMin2 (cCons (cH (cBin opIx (cH (cBin opIx (cV 0) (cK (.int 1)))) (cV 2))) (cCons (cH (cBin opAdd (cH (cBin opIx (cV 0) (cK (.int 3)))) (cH (cCall (one (fBest min)) (cCons (cV 7) cNil))))) cNil)))))
  (sRet (cIf (cT (cBin opLe (cV 8) (cV 9))) (cCall opTup (cCons (cV 8) (cCons (cV 9) cNil))) (cK .none))))))
def F_raw_stretch : Fn := fnOf 10 C_raw_stretch
theorem ok_raw_stretch {P : Program} {w : World} {K : PySem.W.Frag} {mg : Str → Option Value} {base : Heap} {T : Tb} {f : Addr} {fd : FuncData} (g : G mg) (F : Fun K "raw_stretch" "raw_stretch" st_raw_stretch f fd) (hm : mg "raw_stretch" = some (.ref f)) (hb : Binds K fd ["kit", "rises", "flow", "lines", "one", "other", "due"] []) (G_sums_on : Callee P w K mg base T "sums_on" 4 1 F_sums_on) (G_raw_loss : Callee P w K mg base T "raw_loss" 3 1 F_raw_loss) : Callee P w K mg base T "raw_stretch" 7 2 F_raw_stretch := by
  have nd := sc_raw_stretch.nd
  exact Callee.mk' F sc_raw_stretch rfl hm hb fun cdv A outer s H E hr => (db_cons (ds_set 7 nd (DE.hold (de_fn G_sums_on hr (da_cons (dw_var 1) (da_cons (DE.hold (de_fn G_raw_loss hr (da_cons (dw_var 0) (da_cons (dw_var 2) (da_cons (dw_var 3) da_nil))))) (da_cons (dw_var 4) (da_cons (dw_var 5) da_nil)))))))
  (db_cons (ds_set 8 nd (DE.hold (de_callB cd_max2 g.n_max (da_cons (DE.hold (de_callB (cd_max1 hr) g.n_max (da_cons (dw_var 7) da_nil))) (da_cons (DE.hold (de_bin od_add (DE.hold (de_ix ix_all (dw_var 7) (DE.hold (de_neg (DW.toE dw_int))))) (dw_var 6))) da_nil)))))
  (db_cons (ds_set 9 nd (DE.hold (de_callB cd_min2 g.n_min (da_cons (DE.hold (de_ix ix_all (DE.hold (de_ix ix_all (dw_var 0) dw_int)) (dw_var 2))) (da_cons (DE.hold (de_bin od_add (DE.hold (de_ix ix_all (dw_var 0) dw_int)) (DE.hold (de_callB (cd_min1 hr) g.n_min (da_cons (dw_var 7) da_nil))))) da_nil)))))
  (db_one (ds_ret (de_if (dt_cmp od_le (dw_var 8) (dw_var 9)) (de_tup (da_cons (dw_var 8) (da_cons (dw_var 9) da_nil))) (DW.toE dw_non)))))))
/-! ### stretch_told -/
abbrev st_stretch_told : Stmt := topS 30
def N_stretch_told : List Str := ["kit", "rises", "flow", "one", "other", "due"]
theorem sc_stretch_told : FnScope N_stretch_told ["kit", "rises", "flow", "one", "other", "due"] (defScope st_stretch_told) := ⟨rfl, rfl, rfl, by decide +kernel, rfl, by decide +kernel, by decide +kernel⟩
def C_stretch_told : SC :=
  (sCons (sExpr (cFn 3 F_check_line_of (cCons (cV 0) (cCons (cV 1) (cCons (cV 2) cNil)))))
  (sCons (sIf (cOrT (cNotT (cT (cFn 3 F_is_within (cCons (cV 3) (cCons (cK (.int 0)) (cCons (cH (cBin opSub (cH (cCall (one fLen) (cCons (cV 1) cNil))) (cK (.int 1)))) cNil)))))) (cNotT (cT (cFn 3 F_is_within (cCons (cV 4) (cCons (cH (cBin opAdd (cV 3) (cK (.int 1)))) (cCons (cH (cCall (one fLen) (cCons (cV 1) cNil))) cNil)))))))
  (sRaise "NoSpot")
  sNil)
  (sCons (sExpr (cFn 1 F_check_pressure (cCons (cV 5) cNil)))
  (sRet (cFn 7 F_raw_stretch (cCons (cV 0) (cCons (cV 1) (cCons (cV 2) (cCons (cK (.int 1)) (cCons (cV 3) (cCons (cV 4) (cCons (cV 5) cNil))))))))))))
def F_stretch_told : Fn := fnOf 6 C_stretch_told
theorem ok_stretch_told {P : Program} {w : World} {K : PySem.W.Frag} {mg : Str → Option Value} {base : Heap} {T : Tb} {f : Addr} {fd : FuncData} (g : G mg) (F : Fun K "stretch_told" "stretch_told" st_stretch_told f fd) (hm : mg "stretch_told" = some (.ref f)) (hb : Binds K fd ["kit", "rises", "flow", "one", "other", "due"] []) (G_check_line_of : Callee P w K mg base T "check_line_of" 3 6 F_check_line_of) (G_is_within : Callee P w K mg base T "is_within" 3 2 F_is_within) (G_check_pressure : Callee P w K mg base T "check_pressure" 1 3 F_check_pressure) (G_raw_stretch : Callee P w K mg base T "raw_stretch" 7 2 F_raw_stretch) (e_NoSpot : Exc0 K mg "NoSpot") : Callee P w K mg base T "stretch_told" 6 7 F_stretch_told := by
  have nd := sc_stretch_told.nd
  exact Callee.mk' F sc_stretch_told rfl hm hb fun cdv A outer s H E hr => (db_cons (ds_expr (de_fn G_check_line_of hr (da_cons (dw_var 0) (da_cons (dw_var 1) (da_cons (dw_var 2) da_nil)))))
  (db_cons (ds_if (DU.t (du_or (dt_not (dt_val (de_fn G_is_within hr (da_cons (dw_var 3) (da_cons dw_int (da_cons (DE.hold (de_bin od_sub (DE.hold (de_callB cd_len g.n_len (da_cons (dw_var 1) da_nil))) dw_int)) da_nil)))))) (du_or1 (dt_not (dt_val (de_fn G_is_within hr (da_cons (dw_var 4) (da_cons (DE.hold (de_bin od_add (dw_var 3) dw_int)) (da_cons (DE.hold (de_callB cd_len g.n_len (da_cons (dw_var 1) da_nil))) da_nil)))))))))
  (db_one (ds_raise e_NoSpot))
  db_nil)
  (db_cons (ds_expr (de_fn G_check_pressure hr (da_cons (dw_var 5) da_nil)))
  (db_one (ds_ret (de_fn G_raw_stretch hr (da_cons (dw_var 0) (da_cons (dw_var 1) (da_cons (dw_var 2) (da_cons dw_int (da_cons (dw_var 3) (da_cons (dw_var 4) (da_cons (dw_var 5) da_nil)))))))))))))
/-! ### _law_bad_kit -/
abbrev st__law_bad_kit : Stmt := topS 40
def N__law_bad_kit : List Str := ["hand", "kit", "some"]
theorem sc__law_bad_kit : FnScope N__law_bad_kit ["hand", "kit"] (defScope st__law_bad_kit) := ⟨rfl, rfl, rfl, by decide +kernel, rfl, by decide +kernel, by decide +kernel⟩
def C__law_bad_kit : SC :=
  (sCons (sSet 2 (cH (cCall opLst (cCons (cK .none) (cCons (cD (cSl (cV 1) cNoPart (cPart (cK (.int 3))))) (cCons (cD (cCall (one fList) (cCons (cV 1) cNil))) (cCons (cD (cCall opTup (cCons (cD (cCall opTup (cCons (cK (.int 1)) (cCons (cK (.int 2)) cNil)))) (cCons (cD (cCall opTup (cCons (cK (.int 3)) (cCons (cK (.int 2)) cNil)))) (cCons (cK (.int 1)) (cCons (cK (.int 1)) cNil)))))) (cCons (cD (cCall opTup (cCons (cD (cCall opTup (cCons (cK (.int 0)) (cCons (cK (.int 2)) (cCons (cK (.int 1)) cNil))))) (cCons (cD (cCall opTup (cCons (cK (.int 3)) (cCons (cK (.int 2)) (cCons (cK (.int 1)) cNil))))) (cCons (cK (.int 1)) (cCons (cK (.int 1)) cNil)))))) (cCons (cD (cCall opTup (cCons (cD (cCall opTup (cCons (cK (.int 0)) (cCons (cK (.int 1)) cNil)))) (cCons (cD (cCall opTup (cCons (cK (.int 1)) (cCons (cK (.int 2)) cNil)))) (cCons (cK (.int 1)) (cCons (cK (.int 1)) cNil)))))) cNil)))))))))
  (sRet (cFn 2 F__law_any (cCons (cV 0) (cCons (cH (cBin opAdd (cV 2) (cH (cCall opLst (cCons (cD (cCall opTup (cCons (cD (cCall opTup (cCons (cK (.int 0)) (cCons (cK (.int 1)) cNil)))) (cCons (cD (cCall opTup (cCons (cK (.int 2)) (cCons (cK (.int 1)) cNil)))) (cCons (cK (.int 1)) (cCons (cK (.int 0)) cNil)))))) (cCons (cD (cCall opTup (cCons (cD (cCall opTup (cCons (cK (.int 0)) cNil))) (cCons (cD (cCall opTup (cCons (cK (.int 1)) cNil))) (cCons (cK (.int 1)) (cCons (cK (.int 1)) cNil)))))) (cCons (cD (cCall opTup (cCons (cD (cCall opTup (cCons (cK (.int 0)) (cCons (cK (.int 1)) cNil)))) (cCons (cD (cCall opTup (cCons (cK (.int 1)) cNil))) (cCons (cK (.int 1)) (cCons (cK (.int 1)) cNil)))))) (cCons (cK (.int 0)) cNil)))))))) cNil)))))
def F__law_bad_kit : Fn := fnOf 3 C__law_bad_kit
theorem ok__law_bad_kit {P : Program} {w : World} {K : PySem.W.Frag} {mg : Str → Option Value} {base : Heap} {T : Tb} {f : Addr} {fd : FuncData} (g : G mg) (F : Fun K "_law_bad_kit" "_law_bad_kit" st__law_bad_kit f fd) (hm : mg "_law_bad_kit" = some (.ref f)) (hb : Binds K fd ["hand", "kit"] []) (G__law_any : Callee P w K mg base T "_law_any" 2 2 F__law_any) : Callee P w K mg base T "_law_bad_kit" 2 3 F__law_bad_kit := by
  have nd := sc__law_bad_kit.nd
  exact Callee.mk' F sc__law_bad_kit rfl hm hb fun cdv A outer s H E hr => (db_cons (ds_set 2 nd (DE.hold (de_lst (da_cons dw_non (da_cons (DE.data (de_sl (dw_var 1) dp_none (dp_some (DW.toE dw_int)))) (da_cons (DE.data (de_callTy cd_list g.n_list (da_cons (dw_var 1) da_nil))) (da_cons (DE.data (de_tup (da_cons (DE.data (de_tup (da_cons dw_int (da_cons dw_int da_nil)))) (da_cons (DE.data (de_tup (da_cons dw_int (da_cons dw_int da_nil)))) (da_cons dw_int (da_cons dw_int da_nil)))))) (da_cons (DE.data (de_tup (da_cons (DE.data (de_tup (da_cons dw_int (da_cons dw_int (da_cons dw_int da_nil))))) (da_cons (DE.data (de_tup (da_cons dw_int (da_cons dw_int (da_cons dw_int da_nil))))) (da_cons dw_int (da_cons dw_int da_nil)))))) (da_cons (DE.data (de_tup (da_cons (DE.data (de_tup (da_cons dw_int (da_cons dw_int da_nil)))) (da_cons (DE.data (de_tup (da_cons dw_int (da_cons dw_int da_nil)))) (da_cons dw_int (da_cons dw_int da_nil)))))) da_nil)))))))))
  (db_one (ds_ret (de_fn G__law_any hr (da_cons (dw_var 0) (da_cons (DE.hold (de_bin od_add (dw_var 2) (DE.hold (de_lst (da_cons (DE.data (de_tup (da_cons (DE.data (de_tup (da_cons dw_int (da_cons dw_int da_nil)))) (da_cons (DE.data (de_tup (da_cons dw_int (da_cons dw_int da_nil)))) (da_cons dw_int (da_cons dw_int da_nil)))))) (da_cons (DE.data (de_tup (da_cons (DE.data (de_tup (da_cons dw_int da_nil))) (da_cons (DE.data (de_tup (da_cons dw_int da_nil))) (da_cons dw_int (da_cons dw_int da_nil)))))) (da_cons (DE.data (de_tup (da_cons (DE.data (de_tup (da_cons dw_int (da_cons dw_int da_nil)))) (da_cons (DE.data (de_tup (da_cons dw_int da_nil))) (da_cons dw_int (da_cons dw_int da_nil)))))) (da_cons dw_int da_nil)))))))) da_nil))))))
/-! ### _law_said -/
abbrev st__law_said : Stmt := topS 41
def N__law_said : List Str := ["call", "error", "some"]
theorem sc__law_said : FnScope N__law_said ["call"] (defScope st__law_said) := ⟨rfl, rfl, rfl, by decide +kernel, rfl, by decide +kernel, by decide +kernel⟩
def E__law_said (a : Addr) (x : Ex) : SC :=
  (sCons (sSet 2 (cH (cCall opLst (cCons (cD (cIsE 1 a (sb x.cls "NoDue"))) (cCons (cD (cIsE 1 a (sb x.cls "NoFlow"))) (cCons (cD (cIsE 1 a (sb x.cls "NoKit"))) cNil))))))
  (sCons (sSet 2 (cH (cBin opAdd (cV 2) (cH (cCall opLst (cCons (cD (cIsE 1 a (sb x.cls "NoNumber"))) (cCons (cD (cIsE 1 a (sb x.cls "NoRises"))) (cCons (cD (cIsE 1 a (sb x.cls "NoSpot"))) cNil))))))))
  (sCons (sIf (cOrT (cT (cBin (opEq true) (cH (cMt "list" mCountB (cV 2) (cCons (cK (.bool true)) cNil))) (cK (.int 1)))) (cNotT (cT (cIsE 1 a true))))
  (sRet (cK (.str "odd")))
  sNil)
  (sRet (cBin opIx (cH (cCall opLst (cCons (cK (.str "due")) (cCons (cK (.str "flow")) (cCons (cK (.str "kit")) (cCons (cK (.str "number")) (cCons (cK (.str "rises")) (cCons (cK (.str "spot")) cNil)))))))) (cH (cMt "list" mIndexB (cV 2) (cCons (cK (.bool true)) cNil))))))))
theorem ind__law_said : ∀ (a : Addr) (x : Ex) (ρ : Vr) (μ : Mem), ρ.length = N__law_said.length → wipeO 1 (E__law_said a x (ρ.set 1 (some (.o a))) μ) = wipeO 1 (E__law_said 0 x (ρ.set 1 (some (.o 0))) μ) := by
  intro a x ρ μ h
  match ρ, h with
  | [y0, y1, y2], _ =>
    simp only [E__law_said, cV_, cK_, cBin_, cCall_, cCons_, cNil_, cH_, cD_, cA_, cT_, cIf_, cAndT_, cOrT_, cNotT_, cAndV_, cOrV_, cNotV_, cChain_, cSl_, cPart_, cNoPart_, cMt_, cIsi_, cNeg_, cFn_, sNil_, sCons_, sIf_, sSet_, sPar_, sExpr_, sRet_, sRetN_, sRaise_, sBrk_, sCnt_, sStore_, fnOf_, iAny_, iR1_, iR2_, iEn_, gN_, gT_, gsN_, gsC_, stepS_, cYes_, lcF_, bT, iP, isTy, tyName, opTup, opLst, opAdd, opII, cDivB, opMul, opOrd, opEq, kD_nn, kD_ii, kD_bb, kD_ss, kD_ni, kD_nb, kD_ns, kD_in, kD_bn, kD_sn, kD_is, kD_si, kD_bs, kD_sb, kD_tuple1, kD_tuple2, kD_list1, kD_list2, kD_ib, kD_bi, opIsN, opIx, opSl, one, fLen, fInt, fAbs, fTup, fList, see, hold, toD, adopt, Rs.bind, Rs.thenS, opStore, expo, itmOf, wipeR, mAppend, mExtend, sAsg_, List.mapM_cons, List.mapM_nil, Option.bind_eq_bind, Option.bind_some, Option.pure_def, List.append_assoc, sz0, sy0, sz1, sy1, sz2, sy2, sz3, sy3, sz4, sy4, sz5, sy5, sz6, sy6, sz7, sy7, sz8, sy8, sz9, sy9, sz10, sy10, sz11, sy11, sz12, sy12, sz13, sy13, sz14, sy14, sz15, sy15, sz16, sy16, sz17, sy17, sz18, sy18, sz19, sy19, sz20, sy20, sz21, sy21, sz22, sy22, sz23, sy23, sz24, sy24, sz25, sy25, sz26, sy26, sz27, sy27, sz28, sy28, sz29, sy29, sz30, sy30, sz31, sy31, sz32, sy32, sz33, sy33, sz34, sy34, sz35, sy35, sz36, sy36, sz37, sy37, sz38, sy38, sz39, sy39, sz40, sy40, sPar3_, iZp_, cIsE_, zipOf, isL, opRepT, opIsB, fMax2, fMin2, mCountB, mIndexB, bools0, bools1, List.getElem?_cons_zero, List.getElem?_cons_succ, List.map_cons, List.map_nil, List.length_cons, List.length_nil, List.cons_append, List.nil_append, List.replicate_succ, List.replicate_zero, List.set_cons_zero, List.set_cons_succ, Nat.zero_add, Nat.reduceAdd, Nat.reduceSub, ↓reduceIte, reduceCtorEq, String.reduceBEq, kb_NoneType_int, kb_NoneType_bool, kb_NoneType_str, kb_NoneType_tuple, kb_NoneType_list, kb_NoneType_dict, kb_bool_int, kb_bool_bool, kb_bool_str, kb_bool_tuple, kb_bool_list, kb_bool_dict, kb_int_int, kb_int_bool, kb_int_str, kb_int_tuple, kb_int_list, kb_int_dict, kb_str_int, kb_str_bool, kb_str_str, kb_str_tuple, kb_str_list, kb_str_dict, kb_list_int, kb_list_bool, kb_list_str, kb_list_tuple, kb_list_list, kb_list_dict, kb_tuple_int, kb_tuple_bool, kb_tuple_str, kb_tuple_tuple, kb_tuple_list, kb_tuple_dict, kb_dict_int, kb_dict_bool, kb_dict_str, kb_dict_tuple, kb_dict_list, kb_dict_dict, String.reduceEq, Int.reduceLT, Int.reduceLE, Int.reduceNeg, Int.reducePow, Nat.reducePow, Int.reduceToNat, Nat.reduceLT, Nat.reduceLeDiff, decide_true, decide_false, and_self, and_true, true_and, or_true, true_or, or_false, false_or, Bool.not_true, Bool.not_false, Bool.true_eq_false, Bool.false_eq_true, Option.map_some, Option.map_none]
    generalize sb x.cls (Str.ofString "NoDue") = b0
    generalize sb x.cls (Str.ofString "NoFlow") = b1
    generalize sb x.cls (Str.ofString "NoKit") = b2
    generalize sb x.cls (Str.ofString "NoNumber") = b3
    generalize sb x.cls (Str.ofString "NoRises") = b4
    generalize sb x.cls (Str.ofString "NoSpot") = b5
    cases b0 <;> cases b1 <;> cases b2 <;> cases b3 <;> cases b4 <;> cases b5 <;> rfl
def B__law_said (f : Addr) (th : Mem → Rs R) : SC :=
  (sCons (sTryAs known sb (sExpr (cThunk 0 f th)) "EmberError" 1 E__law_said)
  (sRet (cK (.str "let"))))
def P__law_said (th : Mem → Rs R) (μ : Mem) : Rs R := expo μ.length (B__law_said 0 th (some (.o 0) :: List.replicate (N__law_said.length - 1) none) μ)
theorem D__law_said {X0 : Cx} {k : Nat} {cdv : Value} {gA : Addr} {s : Shared} {H : Hp} {f : Addr} {T : Tb} {th : Mem → Rs R} (hr : Room (k + 1) (X0.A.deeper (envOfC "_law_said" (defScope st__law_said) s.heap.objs.size gA cdv))) (g : G X0.mg) (act : ∀ pn xe p1 p2, DE ((SX' X0 N__law_said "_law_said" (defScope st__law_said) gA cdv s H).tr pn xe) T (.Call (.Name "call" p1) [] [] p2) (cThunk 0 f th))
     (e_EmberError : Exc0 X0.K X0.mg "EmberError") (e_NoDue : Exc0 X0.K X0.mg "NoDue") (e_NoFlow : Exc0 X0.K X0.mg "NoFlow") (e_NoKit : Exc0 X0.K X0.mg "NoKit") (e_NoNumber : Exc0 X0.K X0.mg "NoNumber") (e_NoRises : Exc0 X0.K X0.mg "NoRises") (e_NoSpot : Exc0 X0.K X0.mg "NoSpot") (hsb : SubB X0.K X0.mg known hds sb) : DB (SX' X0 N__law_said "_law_said" (defScope st__law_said) gA cdv s H) T (defBody st__law_said) (B__law_said f th) := by
  have nd := sc__law_said.nd
  exact (db_cons (ds_tryAs 1 hsb (by simp [hds]) (let ⟨C, h, _⟩ := e_EmberError.ex; ⟨C, h⟩) nd (fun pn xe => (db_one (ds_expr (act _ _ _ _)))) (fun a oe pn x Cx hk hx z1 z2 => (db_cons (ds_set 2 nd (DE.hold (de_lst (da_cons (DE.data (de_isE 1 hsb hk hx z1 z2 (by simp [hds]) (let ⟨C, h, _⟩ := e_NoDue.ex; ⟨C, h⟩) g.n_isinstance)) (da_cons (DE.data (de_isE 1 hsb hk hx z1 z2 (by simp [hds]) (let ⟨C, h, _⟩ := e_NoFlow.ex; ⟨C, h⟩) g.n_isinstance)) (da_cons (DE.data (de_isE 1 hsb hk hx z1 z2 (by simp [hds]) (let ⟨C, h, _⟩ := e_NoKit.ex; ⟨C, h⟩) g.n_isinstance)) da_nil))))))
  (db_cons (ds_set 2 nd (DE.hold (de_bin od_add (dw_var 2) (DE.hold (de_lst (da_cons (DE.data (de_isE 1 hsb hk hx z1 z2 (by simp [hds]) (let ⟨C, h, _⟩ := e_NoNumber.ex; ⟨C, h⟩) g.n_isinstance)) (da_cons (DE.data (de_isE 1 hsb hk hx z1 z2 (by simp [hds]) (let ⟨C, h, _⟩ := e_NoRises.ex; ⟨C, h⟩) g.n_isinstance)) (da_cons (DE.data (de_isE 1 hsb hk hx z1 z2 (by simp [hds]) (let ⟨C, h, _⟩ := e_NoSpot.ex; ⟨C, h⟩) g.n_isinstance)) da_nil))))))))
  (db_cons (ds_if (DU.t (du_or (dt_cmp (od_neU hr.units) (DE.hold (de_mt md_countB (dw_var 2) (da_cons dw_bl da_nil) PySem.F.plainAttrs_list PySem.F.slot_list_count PySem.F.type_list_count)) dw_int) (du_or1 (dt_not (dt_val (de_isV 1 hsb hk hx z1 z2 g.n_isinstance g.n_ValueError))))))
  (db_one (ds_ret (DW.toE dw_str)))
  db_nil)
  (db_one (ds_ret (de_ix ix_all (DE.hold (de_lst (da_cons dw_str (da_cons dw_str (da_cons dw_str (da_cons dw_str (da_cons dw_str (da_cons dw_str da_nil)))))))) (DE.hold (de_mt md_indexB (dw_var 2) (da_cons dw_bl da_nil) PySem.F.plainAttrs_list PySem.F.slot_list_index PySem.F.type_list_index))))))))) (ind__law_said))
  (db_one (ds_ret (DW.toE dw_str))))
/-! ### can_burst -/
abbrev st_can_burst : Stmt := topS 31
def N_can_burst : List Str := ["kit", "rises", "flow", "sums", "spot", "one"]
theorem sc_can_burst : FnScope N_can_burst ["kit", "rises", "flow"] (defScope st_can_burst) := ⟨rfl, rfl, rfl, by decide +kernel, rfl, by decide +kernel, by decide +kernel⟩
def C_can_burst : SC :=
  (sCons (sExpr (cFn 3 F_check_line_of (cCons (cV 0) (cCons (cV 1) (cCons (cV 2) cNil)))))
  (sCons (sSet 3 (cH (cFn 4 F_sums_on (cCons (cV 1) (cCons (cH (cFn 3 F_raw_loss (cCons (cV 0) (cCons (cV 2) (cCons (cK (.int 1)) cNil))))) (cCons (cK (.int 0)) (cCons (cH (cCall (one fLen) (cCons (cV 1) cNil))) cNil)))))))
  (sRet (cCall (one fTup) (cCons (cH (cLc (iEn (cV 3)) [4, 5] (gT (gsC (gN 4) (gsC (gN 5) gsN))) (cT (cBin opGt (cH (cBin opSub (cH (cBin opIx (cH (cBin opIx (cV 0) (cK (.int 1)))) (cV 2))) (cV 5))) (cH (cBin opIx (cV 0) (cK (.int 3)))))) (cV 4))) cNil)))))
def F_can_burst : Fn := fnOf 6 C_can_burst
theorem ok_can_burst {P : Program} {w : World} {K : PySem.W.Frag} {mg : Str → Option Value} {base : Heap} {T : Tb} {f : Addr} {fd : FuncData} (g : G mg) (F : Fun K "can_burst" "can_burst" st_can_burst f fd) (hm : mg "can_burst" = some (.ref f)) (hb : Binds K fd ["kit", "rises", "flow"] []) (G_check_line_of : Callee P w K mg base T "check_line_of" 3 6 F_check_line_of) (G_sums_on : Callee P w K mg base T "sums_on" 4 1 F_sums_on) (G_raw_loss : Callee P w K mg base T "raw_loss" 3 1 F_raw_loss) : Callee P w K mg base T "can_burst" 3 7 F_can_burst := by
  have nd := sc_can_burst.nd
  exact Callee.mk' F sc_can_burst rfl hm hb fun cdv A outer s H E hr => (db_cons (ds_expr (de_fn G_check_line_of hr (da_cons (dw_var 0) (da_cons (dw_var 1) (da_cons (dw_var 2) da_nil)))))
  (db_cons (ds_set 3 nd (DE.hold (de_fn G_sums_on hr (da_cons (dw_var 1) (da_cons (DE.hold (de_fn G_raw_loss hr (da_cons (dw_var 0) (da_cons (dw_var 2) (da_cons dw_int da_nil))))) (da_cons dw_int (da_cons (DE.hold (de_callB cd_len g.n_len (da_cons (dw_var 1) da_nil))) da_nil)))))))
  (db_one (ds_ret (de_callTy cd_tuple g.n_tuple (da_cons (DE.hold (de_lc nd (di_enum g.n_enumerate (dw_var 3)) (blkOk_by (own := [("spot", 4), ("one", 5)]) (by kernel_rfl)) (fun _ _ _ _ _ => (dg_tup (dgs_cons (dg_name 4 nd) (dgs_cons (dg_name 5 nd) dgs_nil)) (n := 2) (hg := (gsC_len (gsC_len gsN_len))))) (fun _ _ _ _ _ => (dts_one (dt_cmp od_gt (DE.hold (de_bin od_sub (DE.hold (de_ix ix_all (DE.hold (de_ix ix_all (dw_var 0) dw_int)) (dw_var 2))) (dw_var 5))) (DE.hold (de_ix ix_all (dw_var 0) dw_int))))) (fun _ _ _ _ _ => (DW.toE (dw_var 4))))) da_nil))))))
/-! ### loss_of -/
abbrev st_loss_of : Stmt := topS 27
def N_loss_of : List Str := ["kit", "flow", "lines"]
theorem sc_loss_of : FnScope N_loss_of ["kit", "flow", "lines"] (defScope st_loss_of) := ⟨rfl, rfl, rfl, by decide +kernel, rfl, by decide +kernel, by decide +kernel⟩
def C_loss_of : SC :=
  (sCons (sExpr (cFn 1 F_check_kit (cCons (cV 0) cNil)))
  (sCons (sExpr (cFn 2 F_check_flow (cCons (cV 0) (cCons (cV 1) cNil))))
  (sCons (sIf (cNotT (cT (cFn 3 F_is_within (cCons (cV 2) (cCons (cK (.int 1)) (cCons (cK (.int 4)) cNil))))))
  (sRaise "NoNumber")
  sNil)
  (sRet (cFn 3 F_raw_loss (cCons (cV 0) (cCons (cV 1) (cCons (cV 2) cNil))))))))
def F_loss_of : Fn := fnOf 3 C_loss_of
theorem ok_loss_of {P : Program} {w : World} {K : PySem.W.Frag} {mg : Str → Option Value} {base : Heap} {T : Tb} {f : Addr} {fd : FuncData} (g : G mg) (F : Fun K "loss_of" "loss_of" st_loss_of f fd) (hm : mg "loss_of" = some (.ref f)) (hb : Binds K fd ["kit", "flow", "lines"] []) (G_check_kit : Callee P w K mg base T "check_kit" 1 5 F_check_kit) (G_check_flow : Callee P w K mg base T "check_flow" 2 3 F_check_flow) (G_is_within : Callee P w K mg base T "is_within" 3 2 F_is_within) (G_raw_loss : Callee P w K mg base T "raw_loss" 3 1 F_raw_loss) (e_NoNumber : Exc0 K mg "NoNumber") : Callee P w K mg base T "loss_of" 3 6 F_loss_of := by
  have nd := sc_loss_of.nd
  exact Callee.mk' F sc_loss_of rfl hm hb fun cdv A outer s H E hr => (db_cons (ds_expr (de_fn G_check_kit hr (da_cons (dw_var 0) da_nil)))
  (db_cons (ds_expr (de_fn G_check_flow hr (da_cons (dw_var 0) (da_cons (dw_var 1) da_nil))))
  (db_cons (ds_if (dt_not (dt_val (de_fn G_is_within hr (da_cons (dw_var 2) (da_cons dw_int (da_cons (let ⟨_, h⟩ := g.i_MOST_BESIDE; dw_gInt h) da_nil))))))
  (db_one (ds_raise e_NoNumber))
  db_nil)
  (db_one (ds_ret (de_fn G_raw_loss hr (da_cons (dw_var 0) (da_cons (dw_var 1) (da_cons (dw_var 2) da_nil)))))))))
/-! ### _law_refused_right -/
abbrev st__law_refused_right : Stmt := topS 42
def N__law_refused_right : List Str := ["hand", "kit", "rises", "bad", "many", "none", "flow", "due", "spot", "said"]
theorem sc__law_refused_right : FnScope N__law_refused_right ["hand", "kit", "rises"] (defScope st__law_refused_right) := ⟨rfl, rfl, rfl, by decide +kernel, rfl, by decide +kernel, by decide +kernel⟩
def C__law_refused_right : SC :=
  (sCons (sAsg (gT (gsC (gN 3) (gsC (gN 4) gsN))) (cCall opTup (cCons (cD (cFn 2 F__law_bad_kit (cCons (cV 0) (cCons (cV 1) cNil)))) (cCons (cD (cCall (one fLen) (cCons (cH (cBin opIx (cV 1) (cK (.int 0)))) cNil))) cNil))))
  (sCons (sSet 5 (cH (cFn 2 F__law_any (cCons (cV 0) (cCons (cH (cCall opLst (cCons (cK .none) (cCons (cD (cCall opTup cNil)) (cCons (cD (cCall opTup (cCons (cK (.int 101)) cNil))) (cCons (cD (cBin opRepT (cH (cCall opTup (cCons (cK (.int 0)) cNil))) (cK (.int 21)))) (cCons (cD (cCall (one fList) (cCons (cV 2) cNil))) (cCons (cD (cCall opTup (cCons (cK (.bool true)) cNil))) (cCons (cK (.int 0)) cNil))))))))) cNil)))))
  (sCons (sAsg (gT (gsC (gN 6) (gsC (gN 7) gsN))) (cCall opTup (cCons (cD (cFn 2 F__law_any (cCons (cV 0) (cCons (cH (cCall opLst (cCons (cV 4) (cCons (cD (cNeg (cK (.int 1)))) (cCons (cK .none) (cCons (cK (.bool true)) (cCons (cK (.str "1")) cNil))))))) cNil)))) (cCons (cD (cFn 2 F__law_any (cCons (cV 0) (cCons (cH (cCall opLst (cCons (cD (cNeg (cK (.int 1)))) (cCons (cK (.int 1001)) (cCons (cK .none) (cCons (cK (.bool true)) cNil)))))) cNil)))) cNil))))
  (sCons (sSet 8 (cH (cFn 2 F__law_any (cCons (cV 0) (cCons (cH (cCall opLst (cCons (cD (cNeg (cK (.int 1)))) (cCons (cD (cBin opAdd (cH (cCall (one fLen) (cCons (cV 2) cNil))) (cK (.int 1)))) (cCons (cK .none) (cCons (cK (.bool true)) cNil)))))) cNil)))))
  (sCons (sSet 9 (cA (cCall opLst (cCons (cD (cLam P__law_said (cFn 6 F_stretch_told (cCons (cV 3) (cCons (cV 5) (cCons (cV 6) (cCons (cV 8) (cCons (cV 8) (cCons (cV 7) cNil))))))))) cNil))))
  (sCons (sExpr (cMt "list" mAppend (cV 9) (cCons (cD (cLam P__law_said (cFn 6 F_stretch_told (cCons (cV 1) (cCons (cV 5) (cCons (cV 6) (cCons (cV 8) (cCons (cV 8) (cCons (cV 7) cNil))))))))) cNil)))
  (sCons (sExpr (cMt "list" mAppend (cV 9) (cCons (cD (cLam P__law_said (cFn 6 F_stretch_told (cCons (cV 1) (cCons (cV 2) (cCons (cV 6) (cCons (cV 8) (cCons (cV 8) (cCons (cV 7) cNil))))))))) cNil)))
  (sCons (sExpr (cMt "list" mAppend (cV 9) (cCons (cD (cLam P__law_said (cFn 6 F_stretch_told (cCons (cV 1) (cCons (cV 2) (cCons (cK (.int 0)) (cCons (cV 8) (cCons (cK (.int 1)) (cCons (cV 7) cNil))))))))) cNil)))
  (sCons (sExpr (cMt "list" mAppend (cV 9) (cCons (cD (cLam P__law_said (cFn 6 F_stretch_told (cCons (cV 1) (cCons (cV 2) (cCons (cK (.int 0)) (cCons (cK (.int 0)) (cCons (cK (.int 0)) (cCons (cV 7) cNil))))))))) cNil)))
  (sCons (sExpr (cMt "list" mAppend (cV 9) (cCons (cD (cLam P__law_said (cFn 6 F_stretch_told (cCons (cV 1) (cCons (cV 2) (cCons (cK (.int 0)) (cCons (cK (.int 0)) (cCons (cK (.int 1)) (cCons (cV 7) cNil))))))))) cNil)))
  (sCons (sExpr (cMt "list" mAppend (cV 9) (cCons (cD (cLam P__law_said (cFn 3 F_can_burst (cCons (cV 1) (cCons (cV 2) (cCons (cV 6) cNil)))))) cNil)))
  (sCons (sExpr (cMt "list" mAppend (cV 9) (cCons (cD (cLam P__law_said (cFn 3 F_loss_of (cCons (cV 1) (cCons (cK (.int 0)) (cCons (cH (cFn 2 F__law_any (cCons (cV 0) (cCons (cH (cCall opLst (cCons (cK (.int 0)) (cCons (cK (.int 5)) (cCons (cK .none) (cCons (cK (.bool true)) cNil)))))) cNil)))) cNil)))))) cNil)))
  (sRet (cAndV (cBin (opEq false) (cV 9) (cH (cCall opLst (cCons (cK (.str "kit")) (cCons (cK (.str "rises")) (cCons (cK (.str "flow")) (cCons (cK (.str "spot")) (cCons (cK (.str "spot")) (cCons (cK (.str "due")) (cCons (cK (.str "flow")) (cCons (cK (.str "number")) cNil))))))))))) (cBin (opIsB false) (cH (cFn 1 F_is_kit (cCons (cV 3) cNil))) (cK (.bool false)))))))))))))))))
def F__law_refused_right : Fn := fnOf 10 C__law_refused_right
theorem psi__law_said : ∀ f th μ, expo μ.length (B__law_said f th (some (.o f) :: List.replicate (N__law_said.length - 1) none) μ) = P__law_said th μ := by
  intro f th μ
  simp only [P__law_said, B__law_said, N__law_said, cV_, cK_, cBin_, cCall_, cCons_, cNil_, cH_, cD_, cA_, cT_, cIf_, cAndT_, cOrT_, cNotT_, cAndV_, cOrV_, cNotV_, cChain_, cSl_, cPart_, cNoPart_, cMt_, cIsi_, cNeg_, cFn_, sNil_, sCons_, sIf_, sSet_, sPar_, sExpr_, sRet_, sRetN_, sRaise_, sBrk_, sCnt_, sStore_, fnOf_, iAny_, iR1_, iR2_, iEn_, gN_, gT_, gsN_, gsC_, stepS_, cYes_, lcF_, bT, iP, isTy, tyName, opTup, opLst, opAdd, opII, cDivB, opMul, opOrd, opEq, kD_nn, kD_ii, kD_bb, kD_ss, kD_ni, kD_nb, kD_ns, kD_in, kD_bn, kD_sn, kD_is, kD_si, kD_bs, kD_sb, kD_tuple1, kD_tuple2, kD_list1, kD_list2, kD_ib, kD_bi, opIsN, opIx, opSl, one, fLen, fInt, fAbs, fTup, fList, see, hold, toD, adopt, Rs.bind, Rs.thenS, opStore, expo, itmOf, wipeR, mAppend, mExtend, sAsg_, List.mapM_cons, List.mapM_nil, Option.bind_eq_bind, Option.bind_some, Option.pure_def, List.append_assoc, sz0, sy0, sz1, sy1, sz2, sy2, sz3, sy3, sz4, sy4, sz5, sy5, sz6, sy6, sz7, sy7, sz8, sy8, sz9, sy9, sz10, sy10, sz11, sy11, sz12, sy12, sz13, sy13, sz14, sy14, sz15, sy15, sz16, sy16, sz17, sy17, sz18, sy18, sz19, sy19, sz20, sy20, sz21, sy21, sz22, sy22, sz23, sy23, sz24, sy24, sz25, sy25, sz26, sy26, sz27, sy27, sz28, sy28, sz29, sy29, sz30, sy30, sz31, sy31, sz32, sy32, sz33, sy33, sz34, sy34, sz35, sy35, sz36, sy36, sz37, sy37, sz38, sy38, sz39, sy39, sz40, sy40, sPar3_, iZp_, cIsE_, zipOf, isL, opRepT, opIsB, fMax2, fMin2, mCountB, mIndexB, bools0, bools1, List.getElem?_cons_zero, List.getElem?_cons_succ, List.map_cons, List.map_nil, List.length_cons, List.length_nil, List.cons_append, List.nil_append, List.replicate_succ, List.replicate_zero, List.set_cons_zero, List.set_cons_succ, Nat.zero_add, Nat.reduceAdd, Nat.reduceSub, ↓reduceIte, reduceCtorEq, String.reduceBEq, kb_NoneType_int, kb_NoneType_bool, kb_NoneType_str, kb_NoneType_tuple, kb_NoneType_list, kb_NoneType_dict, kb_bool_int, kb_bool_bool, kb_bool_str, kb_bool_tuple, kb_bool_list, kb_bool_dict, kb_int_int, kb_int_bool, kb_int_str, kb_int_tuple, kb_int_list, kb_int_dict, kb_str_int, kb_str_bool, kb_str_str, kb_str_tuple, kb_str_list, kb_str_dict, kb_list_int, kb_list_bool, kb_list_str, kb_list_tuple, kb_list_list, kb_list_dict, kb_tuple_int, kb_tuple_bool, kb_tuple_str, kb_tuple_tuple, kb_tuple_list, kb_tuple_dict, kb_dict_int, kb_dict_bool, kb_dict_str, kb_dict_tuple, kb_dict_list, kb_dict_dict, String.reduceEq, Int.reduceLT, Int.reduceLE, Int.reduceNeg, Int.reducePow, Nat.reducePow, Int.reduceToNat, Nat.reduceLT, Nat.reduceLeDiff, decide_true, decide_false, and_self, and_true, true_and, or_true, true_or, or_false, false_or, Bool.not_true, Bool.not_false, Bool.true_eq_false, Bool.false_eq_true, Option.map_some, Option.map_none, sTryAs, cThunk_]
  cases th μ with
  | ok r μ1 => rfl
  | no => rfl
  | ex x μ1 =>
    simp only [E__law_said, cV_, cK_, cBin_, cCall_, cCons_, cNil_, cH_, cD_, cA_, cT_, cIf_, cAndT_, cOrT_, cNotT_, cAndV_, cOrV_, cNotV_, cChain_, cSl_, cPart_, cNoPart_, cMt_, cIsi_, cNeg_, cFn_, sNil_, sCons_, sIf_, sSet_, sPar_, sExpr_, sRet_, sRetN_, sRaise_, sBrk_, sCnt_, sStore_, fnOf_, iAny_, iR1_, iR2_, iEn_, gN_, gT_, gsN_, gsC_, stepS_, cYes_, lcF_, bT, iP, isTy, tyName, opTup, opLst, opAdd, opII, cDivB, opMul, opOrd, opEq, kD_nn, kD_ii, kD_bb, kD_ss, kD_ni, kD_nb, kD_ns, kD_in, kD_bn, kD_sn, kD_is, kD_si, kD_bs, kD_sb, kD_tuple1, kD_tuple2, kD_list1, kD_list2, kD_ib, kD_bi, opIsN, opIx, opSl, one, fLen, fInt, fAbs, fTup, fList, see, hold, toD, adopt, Rs.bind, Rs.thenS, opStore, expo, itmOf, wipeR, mAppend, mExtend, sAsg_, List.mapM_cons, List.mapM_nil, Option.bind_eq_bind, Option.bind_some, Option.pure_def, List.append_assoc, sz0, sy0, sz1, sy1, sz2, sy2, sz3, sy3, sz4, sy4, sz5, sy5, sz6, sy6, sz7, sy7, sz8, sy8, sz9, sy9, sz10, sy10, sz11, sy11, sz12, sy12, sz13, sy13, sz14, sy14, sz15, sy15, sz16, sy16, sz17, sy17, sz18, sy18, sz19, sy19, sz20, sy20, sz21, sy21, sz22, sy22, sz23, sy23, sz24, sy24, sz25, sy25, sz26, sy26, sz27, sy27, sz28, sy28, sz29, sy29, sz30, sy30, sz31, sy31, sz32, sy32, sz33, sy33, sz34, sy34, sz35, sy35, sz36, sy36, sz37, sy37, sz38, sy38, sz39, sy39, sz40, sy40, sPar3_, iZp_, cIsE_, zipOf, isL, opRepT, opIsB, fMax2, fMin2, mCountB, mIndexB, bools0, bools1, List.getElem?_cons_zero, List.getElem?_cons_succ, List.map_cons, List.map_nil, List.length_cons, List.length_nil, List.cons_append, List.nil_append, List.replicate_succ, List.replicate_zero, List.set_cons_zero, List.set_cons_succ, Nat.zero_add, Nat.reduceAdd, Nat.reduceSub, ↓reduceIte, reduceCtorEq, String.reduceBEq, kb_NoneType_int, kb_NoneType_bool, kb_NoneType_str, kb_NoneType_tuple, kb_NoneType_list, kb_NoneType_dict, kb_bool_int, kb_bool_bool, kb_bool_str, kb_bool_tuple, kb_bool_list, kb_bool_dict, kb_int_int, kb_int_bool, kb_int_str, kb_int_tuple, kb_int_list, kb_int_dict, kb_str_int, kb_str_bool, kb_str_str, kb_str_tuple, kb_str_list, kb_str_dict, kb_list_int, kb_list_bool, kb_list_str, kb_list_tuple, kb_list_list, kb_list_dict, kb_tuple_int, kb_tuple_bool, kb_tuple_str, kb_tuple_tuple, kb_tuple_list, kb_tuple_dict, kb_dict_int, kb_dict_bool, kb_dict_str, kb_dict_tuple, kb_dict_list, kb_dict_dict, String.reduceEq, Int.reduceLT, Int.reduceLE, Int.reduceNeg, Int.reducePow, Nat.reducePow, Int.reduceToNat, Nat.reduceLT, Nat.reduceLeDiff, decide_true, decide_false, and_self, and_true, true_and, or_true, true_or, or_false, false_or, Bool.not_true, Bool.not_false, Bool.true_eq_false, Bool.false_eq_true, Option.map_some, Option.map_none, wipeO]
    generalize x.arg.isNone = c0
    generalize known.contains x.cls = c1
    generalize sb x.cls (Str.ofString "NoDue") = b0
    generalize sb x.cls (Str.ofString "NoFlow") = b1
    generalize sb x.cls (Str.ofString "NoKit") = b2
    generalize sb x.cls (Str.ofString "NoNumber") = b3
    generalize sb x.cls (Str.ofString "NoRises") = b4
    generalize sb x.cls (Str.ofString "NoSpot") = b5
    generalize sb x.cls (Str.ofString "EmberError") = b6
    cases c0 <;> cases c1 <;> cases b0 <;> cases b1 <;> cases b2 <;> cases b3 <;> cases b4 <;> cases b5 <;> cases b6 <;> rfl
theorem ok__law_refused_right {P : Program} {w : World} {K : PySem.W.Frag} {mg : Str → Option Value} {base : Heap} {T : Tb} (g : G mg) (G__law_bad_kit : Callee P w K mg base T "_law_bad_kit" 2 3 F__law_bad_kit) (G__law_any : Callee P w K mg base T "_law_any" 2 2 F__law_any) (G_stretch_told : Callee P w K mg base T "stretch_told" 6 7 F_stretch_told) (G_can_burst : Callee P w K mg base T "can_burst" 3 7 F_can_burst) (G_loss_of : Callee P w K mg base T "loss_of" 3 6 F_loss_of) (G_is_kit : Callee P w K mg base T "is_kit" 1 4 F_is_kit) (e_EmberError : Exc0 K mg "EmberError") (e_NoDue : Exc0 K mg "NoDue") (e_NoFlow : Exc0 K mg "NoFlow") (e_NoKit : Exc0 K mg "NoKit") (e_NoNumber : Exc0 K mg "NoNumber") (e_NoRises : Exc0 K mg "NoRises") (e_NoSpot : Exc0 K mg "NoSpot") (hsb : SubB K mg known hds sb) {g__law_said : Addr} {cdv__law_said kV__law_said doc__law_said pm__law_said ct__law_said oc__law_said : Value} {an__law_said od__law_said : Option Addr} {osl__law_said : Array (Option Value)} (m__law_said : mg "_law_said" = some (.ref g__law_said)) (k__law_said : PySem.W.keepIn K (.ref g__law_said) = true) (l__law_said : K.lookup g__law_said = some ⟨oc__law_said, od__law_said, .func (PySem.W.fnOf "_law_said" "_law_said" (defArgs st__law_said) (defBody st__law_said) (defScope st__law_said) .none kV__law_said doc__law_said pm__law_said an__law_said cdv__law_said ct__law_said), osl__law_said⟩) (c__law_said : PySem.W.codeIn K cdv__law_said "_law_said" = true) (b__law_said : L2.Binds K (PySem.W.fnOf "_law_said" "_law_said" (defArgs st__law_said) (defBody st__law_said) (defScope st__law_said) .none kV__law_said doc__law_said pm__law_said an__law_said cdv__law_said ct__law_said) ["call"] []) {fa c Pt : Addr} {kV doc pm ct oc : Value} {an od : Option Addr} {osl : Array (Option Value)} (lk : K.lookup fa = some ⟨oc, od, .func (PySem.W.fnOf "_law_refused_right" "_law_refused_right" (defArgs st__law_refused_right) (defBody st__law_refused_right) (defScope st__law_refused_right) .none kV doc pm an (.ref c) ct), osl⟩) (hcd : PySem.W.codeIn K (.ref c) "_law_refused_right" = true)
    (TB : LamX.TabB base mg c Pt) (hmT : (Pt, lamQ "_law_refused_right") ∈ T.tabs) (hu : ∀ p ∈ T.tabs, p.1 = Pt → p.2 = lamQ "_law_refused_right") : FnOk P w K mg base (L2.CX P w) 10 fa (PySem.W.fnOf "_law_refused_right" "_law_refused_right" (defArgs st__law_refused_right) (defBody st__law_refused_right) (defScope st__law_refused_right) .none kV doc pm an (.ref c) ct) ["hand", "kit", "rises"] (spOf T K mg 3 F__law_refused_right) := by
  have nd := sc__law_refused_right.nd
  exact fnC lk hcd sc__law_refused_right rfl fun A outer s H E hr => (db_cons (ds_asg (de_tup (da_cons (DE.data (de_fn G__law_bad_kit hr (da_cons (dw_var 0) (da_cons (dw_var 1) da_nil)))) (da_cons (DE.data (de_callB cd_len g.n_len (da_cons (DE.hold (de_ix ix_all (dw_var 1) dw_int)) da_nil))) da_nil))) (dg_tup (dgs_cons (dg_name 3 nd) (dgs_cons (dg_name 4 nd) dgs_nil)) (n := 2) (hg := (gsC_len (gsC_len gsN_len)))))
  (db_cons (ds_set 5 nd (DE.hold (de_fn G__law_any hr (da_cons (dw_var 0) (da_cons (DE.hold (de_lst (da_cons dw_non (da_cons (DE.data (de_tup da_nil)) (da_cons (DE.data (de_tup (da_cons dw_int da_nil))) (da_cons (DE.data (de_bin od_repT (DE.hold (de_tup (da_cons dw_int da_nil))) dw_int)) (da_cons (DE.data (de_callTy cd_list g.n_list (da_cons (dw_var 2) da_nil))) (da_cons (DE.data (de_tup (da_cons dw_bl da_nil))) (da_cons dw_int da_nil))))))))) da_nil)))))
  (db_cons (ds_asg (de_tup (da_cons (DE.data (de_fn G__law_any hr (da_cons (dw_var 0) (da_cons (DE.hold (de_lst (da_cons (dw_var 4) (da_cons (DE.data (de_neg (DW.toE dw_int))) (da_cons dw_non (da_cons dw_bl (da_cons dw_str da_nil))))))) da_nil)))) (da_cons (DE.data (de_fn G__law_any hr (da_cons (dw_var 0) (da_cons (DE.hold (de_lst (da_cons (DE.data (de_neg (DW.toE dw_int))) (da_cons dw_int (da_cons dw_non (da_cons dw_bl da_nil)))))) da_nil)))) da_nil))) (dg_tup (dgs_cons (dg_name 6 nd) (dgs_cons (dg_name 7 nd) dgs_nil)) (n := 2) (hg := (gsC_len (gsC_len gsN_len)))))
  (db_cons (ds_set 8 nd (DE.hold (de_fn G__law_any hr (da_cons (dw_var 0) (da_cons (DE.hold (de_lst (da_cons (DE.data (de_neg (DW.toE dw_int))) (da_cons (DE.data (de_bin od_add (DE.hold (de_callB cd_len g.n_len (da_cons (dw_var 2) da_nil))) dw_int)) (da_cons dw_non (da_cons dw_bl da_nil)))))) da_nil)))))
  (db_cons (ds_set 9 nd (DE.adopt (de_lst (da_cons (DE.data (de_lam (ψ := P__law_said) (cb := B__law_said) (Ng := N__law_said) (k := 7) m__law_said k__law_said l__law_said c__law_said b__law_said sc__law_said rfl (by first | exact Or.inl rfl | exact Or.inr (Or.inl rfl)) TB rfl (by exact hmT) (by exact hu) (hr.mono (by decide)) (LamX.lamS_by (by kernel_rfl)) (by rfl) (fun _ _ _ _ _ => rfl) (fun A2 outer2 s2 H2 E2 f2 c2 hr2 => (de_fn G_stretch_told hr2 (da_cons (dw_var 3) (da_cons (dw_var 5) (da_cons (dw_var 6) (da_cons (dw_var 8) (da_cons (dw_var 8) (da_cons (dw_var 7) da_nil)))))))) (fun s2 H2 f th T2 hr2 act => D__law_said hr2 g (by exact act) e_EmberError e_NoDue e_NoFlow e_NoKit e_NoNumber e_NoRises e_NoSpot hsb) (psi__law_said))) da_nil))))
  (db_cons (ds_expr (de_mt md_append (dw_var 9) (da_cons (DE.data (de_lam (ψ := P__law_said) (cb := B__law_said) (Ng := N__law_said) (k := 7) m__law_said k__law_said l__law_said c__law_said b__law_said sc__law_said rfl (by first | exact Or.inl rfl | exact Or.inr (Or.inl rfl)) TB rfl (by exact hmT) (by exact hu) (hr.mono (by decide)) (LamX.lamS_by (by kernel_rfl)) (by rfl) (fun _ _ _ _ _ => rfl) (fun A2 outer2 s2 H2 E2 f2 c2 hr2 => (de_fn G_stretch_told hr2 (da_cons (dw_var 1) (da_cons (dw_var 5) (da_cons (dw_var 6) (da_cons (dw_var 8) (da_cons (dw_var 8) (da_cons (dw_var 7) da_nil)))))))) (fun s2 H2 f th T2 hr2 act => D__law_said hr2 g (by exact act) e_EmberError e_NoDue e_NoFlow e_NoKit e_NoNumber e_NoRises e_NoSpot hsb) (psi__law_said))) da_nil) PySem.F.plainAttrs_list PySem.F.slot_list_append PySem.F.type_list_append))
  (db_cons (ds_expr (de_mt md_append (dw_var 9) (da_cons (DE.data (de_lam (ψ := P__law_said) (cb := B__law_said) (Ng := N__law_said) (k := 7) m__law_said k__law_said l__law_said c__law_said b__law_said sc__law_said rfl (by first | exact Or.inl rfl | exact Or.inr (Or.inl rfl)) TB rfl (by exact hmT) (by exact hu) (hr.mono (by decide)) (LamX.lamS_by (by kernel_rfl)) (by rfl) (fun _ _ _ _ _ => rfl) (fun A2 outer2 s2 H2 E2 f2 c2 hr2 => (de_fn G_stretch_told hr2 (da_cons (dw_var 1) (da_cons (dw_var 2) (da_cons (dw_var 6) (da_cons (dw_var 8) (da_cons (dw_var 8) (da_cons (dw_var 7) da_nil)))))))) (fun s2 H2 f th T2 hr2 act => D__law_said hr2 g (by exact act) e_EmberError e_NoDue e_NoFlow e_NoKit e_NoNumber e_NoRises e_NoSpot hsb) (psi__law_said))) da_nil) PySem.F.plainAttrs_list PySem.F.slot_list_append PySem.F.type_list_append))
  (db_cons (ds_expr (de_mt md_append (dw_var 9) (da_cons (DE.data (de_lam (ψ := P__law_said) (cb := B__law_said) (Ng := N__law_said) (k := 7) m__law_said k__law_said l__law_said c__law_said b__law_said sc__law_said rfl (by first | exact Or.inl rfl | exact Or.inr (Or.inl rfl)) TB rfl (by exact hmT) (by exact hu) (hr.mono (by decide)) (LamX.lamS_by (by kernel_rfl)) (by rfl) (fun _ _ _ _ _ => rfl) (fun A2 outer2 s2 H2 E2 f2 c2 hr2 => (de_fn G_stretch_told hr2 (da_cons (dw_var 1) (da_cons (dw_var 2) (da_cons dw_int (da_cons (dw_var 8) (da_cons dw_int (da_cons (dw_var 7) da_nil)))))))) (fun s2 H2 f th T2 hr2 act => D__law_said hr2 g (by exact act) e_EmberError e_NoDue e_NoFlow e_NoKit e_NoNumber e_NoRises e_NoSpot hsb) (psi__law_said))) da_nil) PySem.F.plainAttrs_list PySem.F.slot_list_append PySem.F.type_list_append))
  (db_cons (ds_expr (de_mt md_append (dw_var 9) (da_cons (DE.data (de_lam (ψ := P__law_said) (cb := B__law_said) (Ng := N__law_said) (k := 7) m__law_said k__law_said l__law_said c__law_said b__law_said sc__law_said rfl (by first | exact Or.inl rfl | exact Or.inr (Or.inl rfl)) TB rfl (by exact hmT) (by exact hu) (hr.mono (by decide)) (LamX.lamS_by (by kernel_rfl)) (by rfl) (fun _ _ _ _ _ => rfl) (fun A2 outer2 s2 H2 E2 f2 c2 hr2 => (de_fn G_stretch_told hr2 (da_cons (dw_var 1) (da_cons (dw_var 2) (da_cons dw_int (da_cons dw_int (da_cons dw_int (da_cons (dw_var 7) da_nil)))))))) (fun s2 H2 f th T2 hr2 act => D__law_said hr2 g (by exact act) e_EmberError e_NoDue e_NoFlow e_NoKit e_NoNumber e_NoRises e_NoSpot hsb) (psi__law_said))) da_nil) PySem.F.plainAttrs_list PySem.F.slot_list_append PySem.F.type_list_append))
  (db_cons (ds_expr (de_mt md_append (dw_var 9) (da_cons (DE.data (de_lam (ψ := P__law_said) (cb := B__law_said) (Ng := N__law_said) (k := 7) m__law_said k__law_said l__law_said c__law_said b__law_said sc__law_said rfl (by first | exact Or.inl rfl | exact Or.inr (Or.inl rfl)) TB rfl (by exact hmT) (by exact hu) (hr.mono (by decide)) (LamX.lamS_by (by kernel_rfl)) (by rfl) (fun _ _ _ _ _ => rfl) (fun A2 outer2 s2 H2 E2 f2 c2 hr2 => (de_fn G_stretch_told hr2 (da_cons (dw_var 1) (da_cons (dw_var 2) (da_cons dw_int (da_cons dw_int (da_cons dw_int (da_cons (dw_var 7) da_nil)))))))) (fun s2 H2 f th T2 hr2 act => D__law_said hr2 g (by exact act) e_EmberError e_NoDue e_NoFlow e_NoKit e_NoNumber e_NoRises e_NoSpot hsb) (psi__law_said))) da_nil) PySem.F.plainAttrs_list PySem.F.slot_list_append PySem.F.type_list_append))
  (db_cons (ds_expr (de_mt md_append (dw_var 9) (da_cons (DE.data (de_lam (ψ := P__law_said) (cb := B__law_said) (Ng := N__law_said) (k := 7) m__law_said k__law_said l__law_said c__law_said b__law_said sc__law_said rfl (by first | exact Or.inl rfl | exact Or.inr (Or.inl rfl)) TB rfl (by exact hmT) (by exact hu) (hr.mono (by decide)) (LamX.lamS_by (by kernel_rfl)) (by rfl) (fun _ _ _ _ _ => rfl) (fun A2 outer2 s2 H2 E2 f2 c2 hr2 => (de_fn G_can_burst hr2 (da_cons (dw_var 1) (da_cons (dw_var 2) (da_cons (dw_var 6) da_nil))))) (fun s2 H2 f th T2 hr2 act => D__law_said hr2 g (by exact act) e_EmberError e_NoDue e_NoFlow e_NoKit e_NoNumber e_NoRises e_NoSpot hsb) (psi__law_said))) da_nil) PySem.F.plainAttrs_list PySem.F.slot_list_append PySem.F.type_list_append))
  (db_cons (ds_expr (de_mt md_append (dw_var 9) (da_cons (DE.data (de_lam (ψ := P__law_said) (cb := B__law_said) (Ng := N__law_said) (k := 7) m__law_said k__law_said l__law_said c__law_said b__law_said sc__law_said rfl (by first | exact Or.inl rfl | exact Or.inr (Or.inl rfl)) TB rfl (by exact hmT) (by exact hu) (hr.mono (by decide)) (LamX.lamS_by (by kernel_rfl)) (by rfl) (fun _ _ _ _ _ => rfl) (fun A2 outer2 s2 H2 E2 f2 c2 hr2 => (de_fn G_loss_of hr2 (da_cons (dw_var 1) (da_cons dw_int (da_cons (DE.hold (de_fn G__law_any hr2 (da_cons (dw_var 0) (da_cons (DE.hold (de_lst (da_cons dw_int (da_cons dw_int (da_cons dw_non (da_cons dw_bl da_nil)))))) da_nil)))) da_nil))))) (fun s2 H2 f th T2 hr2 act => D__law_said hr2 g (by exact act) e_EmberError e_NoDue e_NoFlow e_NoKit e_NoNumber e_NoRises e_NoSpot hsb) (psi__law_said))) da_nil) PySem.F.plainAttrs_list PySem.F.slot_list_append PySem.F.type_list_append))
  (db_one (ds_ret (de_and (de_cmp (od_eqU hr.units) (dw_var 9) (DE.hold (de_lst (da_cons dw_str (da_cons dw_str (da_cons dw_str (da_cons dw_str (da_cons dw_str (da_cons dw_str (da_cons dw_str (da_cons dw_str da_nil))))))))))) (de_one (de_cmp od_isB (DE.hold (de_fn G_is_kit hr (da_cons (dw_var 3) da_nil))) dw_bl)))))))))))))))))
/-! ### _law_asked -/
abbrev st__law_asked : Stmt := topS 39
def N__law_asked : List Str := ["kit", "rises", "flow"]
theorem sc__law_asked : FnScope N__law_asked ["kit", "rises", "flow"] (defScope st__law_asked) := ⟨rfl, rfl, rfl, by decide +kernel, rfl, by decide +kernel, by decide +kernel⟩
def C__law_asked : SC :=
  (sRet (cCall opTup (cCons (cV 0) (cCons (cV 1) (cCons (cV 2) (cCons (cD (cBin opIx (cH (cBin opIx (cV 0) (cK (.int 0)))) (cV 2))) cNil))))))
def F__law_asked : Fn := fnOf 3 C__law_asked
theorem ok__law_asked {P : Program} {w : World} {K : PySem.W.Frag} {mg : Str → Option Value} {base : Heap} {T : Tb} {f : Addr} {fd : FuncData} (g : G mg) (F : Fun K "_law_asked" "_law_asked" st__law_asked f fd) (hm : mg "_law_asked" = some (.ref f)) (hb : Binds K fd ["kit", "rises", "flow"] []) : Callee P w K mg base T "_law_asked" 3 1 F__law_asked := by
  have nd := sc__law_asked.nd
  exact Callee.mk' F sc__law_asked rfl hm hb fun cdv A outer s H E hr => (db_one (ds_ret (de_tup (da_cons (dw_var 0) (da_cons (dw_var 1) (da_cons (dw_var 2) (da_cons (DE.data (de_ix ix_all (DE.hold (de_ix ix_all (dw_var 0) dw_int)) (dw_var 2))) da_nil)))))))
/-! ### law -/
abbrev st_law : Stmt := topS 43
def N_law : List Str := ["script", "hand", "turn", "kit", "rises", "flow", "asked", "one", "other", "due", "told", "more", "drop", "spots", "spot", "lines"]
theorem sc_law : FnScope N_law ["script"] (defScope st_law) := ⟨rfl, rfl, rfl, by decide +kernel, rfl, by decide +kernel, by decide +kernel⟩
def C_law : SC :=
  (sCons (sSet 1 (cA (cFn 1 F__law_hand (cCons (cV 0) cNil))))
  (sCons (sFor (iR1 (cK (.int 5))) (gN 2)
  (sCons (sPar 3 4 (cH (cFn 1 F__law_kit (cCons (cV 1) cNil))) (cH (cFn 2 F__law_rises (cCons (cV 1) (cCons (cK (.int 5)) cNil)))))
  (sCons (sIf (cT (cBin (opIsB true) (cH (cFn 1 F_is_kit (cCons (cV 3) cNil))) (cK (.bool true))))
  (sRet (cK (.bool false)))
  sNil)
  (sCons (sFor (iR1 (cH (cCall (one fLen) (cCons (cH (cBin opIx (cV 3) (cK (.int 0)))) cNil)))) (gN 5)
  (sCons (sPar 6 7 (cH (cFn 3 F__law_asked (cCons (cV 3) (cCons (cV 4) (cCons (cV 5) cNil))))) (cH (cFn 2 F__law_draw (cCons (cV 1) (cCons (cH (cCall (one fLen) (cCons (cV 4) cNil))) cNil)))))
  (sCons (sPar 8 9 (cH (cBin opAdd (cH (cBin opAdd (cV 7) (cK (.int 1)))) (cH (cFn 2 F__law_draw (cCons (cV 1) (cCons (cH (cBin opSub (cH (cCall (one fLen) (cCons (cV 4) cNil))) (cV 7))) cNil)))))) (cH (cFn 2 F__law_draw (cCons (cV 1) (cCons (cK (.int 20)) cNil)))))
  (sCons (sSet 10 (cH (cFn 4 F__law_stretch (cCons (cV 6) (cCons (cV 7) (cCons (cV 8) (cCons (cV 9) cNil)))))))
  (sCons (sIf (cT (cBin (opEq true) (cH (cFn 6 F_stretch_told (cCons (cV 3) (cCons (cV 4) (cCons (cV 5) (cCons (cV 7) (cCons (cV 8) (cCons (cV 9) cNil)))))))) (cV 10)))
  (sRet (cK (.bool false)))
  sNil)
  (sCons (sSet 11 (cH (cFn 6 F_stretch_told (cCons (cV 3) (cCons (cV 4) (cCons (cV 5) (cCons (cV 7) (cCons (cV 8) (cCons (cH (cBin opAdd (cV 9) (cK (.int 3)))) cNil)))))))))
  (sCons (sIf (cAndT (cT (cBin (opIsN true) (cV 11) (cK .none))) (cOrT (cT (cBin (opIsN false) (cV 10) (cK .none))) (cOrT (cT (cBin opGt (cH (cBin opIx (cV 10) (cK (.int 0)))) (cH (cBin opIx (cV 11) (cK (.int 0)))))) (cT (cBin (opEq true) (cH (cBin opIx (cV 10) (cK (.int 1)))) (cH (cBin opIx (cV 11) (cK (.int 1)))))))))
  (sRet (cK (.bool false)))
  sNil)
  (sCons (sPar 12 13 (cK (.int 0)) (cA (cCall opLst cNil)))
  (sCons (sFor (iR1 (cH (cBin opAdd (cH (cCall (one fLen) (cCons (cV 4) cNil))) (cK (.int 1))))) (gN 14)
  (sCons (sIf (cT (cBin opGt (cH (cBin opSub (cH (cBin opIx (cH (cBin opIx (cV 3) (cK (.int 1)))) (cV 5))) (cV 12))) (cH (cBin opIx (cV 3) (cK (.int 3))))))
  (sExpr (cMt "list" mAppend (cV 13) (cCons (cV 14) cNil)))
  sNil)
  (sSet 12 (cH (cBin opAdd (cH (cBin opAdd (cV 12) (cH (cBin opIx (cH (cBin opIx (cV 3) (cK (.int 0)))) (cV 5))))) (cH (cIf (cT (cBin opLt (cV 14) (cH (cCall (one fLen) (cCons (cV 4) cNil))))) (cBin opIx (cV 4) (cV 14)) (cK (.int 0)))))))))
  (sCons (sIf (cT (cBin (opEq true) (cH (cFn 3 F_can_burst (cCons (cV 3) (cCons (cV 4) (cCons (cV 5) cNil))))) (cH (cCall (one fTup) (cCons (cV 13) cNil)))))
  (sRet (cK (.bool false)))
  sNil)
  (sCons (sSet 15 (cH (cBin opAdd (cK (.int 1)) (cH (cFn 2 F__law_draw (cCons (cV 1) (cCons (cK (.int 4)) cNil)))))))
  (sIf (cT (cBin (opEq true) (cH (cFn 3 F_loss_of (cCons (cV 3) (cCons (cV 5) (cCons (cV 15) cNil))))) (cH (cBin opIx (cH (cBin opIx (cV 3) (cK (.int 0)))) (cH (cBin opDiv (cH (cBin opSub (cH (cBin opAdd (cV 5) (cV 15))) (cK (.int 1)))) (cV 15)))))))
  (sRet (cK (.bool false)))
  sNil))))))))))))
  (sIf (cNotT (cT (cFn 3 F__law_refused_right (cCons (cV 1) (cCons (cV 3) (cCons (cV 4) cNil))))))
  (sRet (cK (.bool false)))
  sNil)))))
  (sCons (sAsg (gT (gsC (gN 3) (gsC (gN 4) gsN))) (cCall opTup (cCons (cD (cCall opTup (cCons (cD (cCall opTup (cCons (cK (.int 0)) (cCons (cK (.int 1)) (cCons (cK (.int 3)) (cCons (cK (.int 6)) cNil)))))) (cCons (cD (cCall opTup (cCons (cK (.int 30)) (cCons (cK (.int 30)) (cCons (cK (.int 25)) (cCons (cK (.int 20)) cNil)))))) (cCons (cK (.int 5)) (cCons (cK (.int 40)) cNil)))))) (cCons (cD (cCall opTup (cCons (cK (.int 0)) (cCons (cK (.int 0)) (cCons (cK (.int 0)) (cCons (cK (.int 0)) cNil)))))) cNil))))
  (sRet (cAndV (cBin (opEq false) (cH (cFn 6 F_stretch_told (cCons (cV 3) (cCons (cV 4) (cCons (cK (.int 2)) (cCons (cK (.int 0)) (cCons (cK (.int 4)) (cCons (cK (.int 10)) cNil)))))))) (cH (cCall opTup (cCons (cK (.int 22)) (cCons (cK (.int 25)) cNil))))) (cBin (opIsN false) (cH (cFn 6 F_stretch_told (cCons (cV 3) (cCons (cV 4) (cCons (cK (.int 3)) (cCons (cK (.int 0)) (cCons (cK (.int 4)) (cCons (cK (.int 10)) cNil)))))))) (cK .none)))))))
def F_law : Fn := fnOf 16 C_law
theorem ok_law {P : Program} {w : World} {K : PySem.W.Frag} {mg : Str → Option Value} {base : Heap} {T : Tb} (g : G mg) (G__law_hand : Callee P w K mg base T "_law_hand" 1 1 F__law_hand) (G__law_kit : Callee P w K mg base T "_law_kit" 1 2 F__law_kit) (G__law_rises : Callee P w K mg base T "_law_rises" 2 3 F__law_rises) (G_is_kit : Callee P w K mg base T "is_kit" 1 4 F_is_kit) (G__law_asked : Callee P w K mg base T "_law_asked" 3 1 F__law_asked) (G__law_draw : Callee P w K mg base T "_law_draw" 2 1 F__law_draw) (G__law_stretch : Callee P w K mg base T "_law_stretch" 4 1 F__law_stretch) (G_stretch_told : Callee P w K mg base T "stretch_told" 6 7 F_stretch_told) (G_can_burst : Callee P w K mg base T "can_burst" 3 7 F_can_burst) (G_loss_of : Callee P w K mg base T "loss_of" 3 6 F_loss_of) (G__law_refused_right : Callee P w K mg base T "_law_refused_right" 3 10 F__law_refused_right) {fa : Addr} {kV doc pm ct oc cdv : Value} {an od : Option Addr} {osl : Array (Option Value)} (lk : K.lookup fa = some ⟨oc, od, .func (PySem.W.fnOf "law" "law" (defArgs st_law) (defBody st_law) (defScope st_law) .none kV doc pm an cdv ct), osl⟩) (hcd : PySem.W.codeIn K cdv "law" = true)
    : FnOk P w K mg base (L2.CX P w) 11 fa (PySem.W.fnOf "law" "law" (defArgs st_law) (defBody st_law) (defScope st_law) .none kV doc pm an cdv ct) ["script"] (spOf T K mg 1 F_law) := by
  have nd := sc_law.nd
  exact fnC lk hcd sc_law rfl fun A outer s H E hr => (db_cons (ds_set 1 nd (DE.adopt (de_fn G__law_hand hr (da_cons (dw_var 0) da_nil))))
  (db_cons (ds_for (di_range1 g.n_range dw_int) (dg_name 2 nd)
  (db_cons (ds_par 3 4 nd (DE.hold (de_fn G__law_kit hr (da_cons (dw_var 1) da_nil))) (DE.hold (de_fn G__law_rises hr (da_cons (dw_var 1) (da_cons dw_int da_nil)))))
  (db_cons (ds_if (dt_cmp od_isNotB (DE.hold (de_fn G_is_kit hr (da_cons (dw_var 3) da_nil))) dw_bl)
  (db_one (ds_ret (DW.toE dw_bl)))
  db_nil)
  (db_cons (ds_for (di_range1 g.n_range (DE.hold (de_callB cd_len g.n_len (da_cons (DE.hold (de_ix ix_all (dw_var 3) dw_int)) da_nil)))) (dg_name 5 nd)
  (db_cons (ds_par 6 7 nd (DE.hold (de_fn G__law_asked hr (da_cons (dw_var 3) (da_cons (dw_var 4) (da_cons (dw_var 5) da_nil))))) (DE.hold (de_fn G__law_draw hr (da_cons (dw_var 1) (da_cons (DE.hold (de_callB cd_len g.n_len (da_cons (dw_var 4) da_nil))) da_nil)))))
  (db_cons (ds_par 8 9 nd (DE.hold (de_bin od_add (DE.hold (de_bin od_add (dw_var 7) dw_int)) (DE.hold (de_fn G__law_draw hr (da_cons (dw_var 1) (da_cons (DE.hold (de_bin od_sub (DE.hold (de_callB cd_len g.n_len (da_cons (dw_var 4) da_nil))) (dw_var 7))) da_nil)))))) (DE.hold (de_fn G__law_draw hr (da_cons (dw_var 1) (da_cons dw_int da_nil)))))
  (db_cons (ds_set 10 nd (DE.hold (de_fn G__law_stretch hr (da_cons (dw_var 6) (da_cons (dw_var 7) (da_cons (dw_var 8) (da_cons (dw_var 9) da_nil)))))))
  (db_cons (ds_if (dt_cmp (od_neU hr.units) (DE.hold (de_fn G_stretch_told hr (da_cons (dw_var 3) (da_cons (dw_var 4) (da_cons (dw_var 5) (da_cons (dw_var 7) (da_cons (dw_var 8) (da_cons (dw_var 9) da_nil)))))))) (dw_var 10))
  (db_one (ds_ret (DW.toE dw_bl)))
  db_nil)
  (db_cons (ds_set 11 nd (DE.hold (de_fn G_stretch_told hr (da_cons (dw_var 3) (da_cons (dw_var 4) (da_cons (dw_var 5) (da_cons (dw_var 7) (da_cons (dw_var 8) (da_cons (DE.hold (de_bin od_add (dw_var 9) dw_int)) da_nil)))))))))
  (db_cons (ds_if (DU.t (du_and (dt_cmp od_isNotN (dw_var 11) dw_non) (du_and1 (DU.t (du_or (dt_cmp od_isN (dw_var 10) dw_non) (du_or (dt_cmp od_gt (DE.hold (de_ix ix_all (dw_var 10) dw_int)) (DE.hold (de_ix ix_all (dw_var 11) dw_int))) (du_or1 (dt_cmp (od_neU hr.units) (DE.hold (de_ix ix_all (dw_var 10) dw_int)) (DE.hold (de_ix ix_all (dw_var 11) dw_int))))))))))
  (db_one (ds_ret (DW.toE dw_bl)))
  db_nil)
  (db_cons (ds_par 12 13 nd dw_int (DE.adopt (de_lst da_nil)))
  (db_cons (ds_for (di_range1 g.n_range (DE.hold (de_bin od_add (DE.hold (de_callB cd_len g.n_len (da_cons (dw_var 4) da_nil))) dw_int))) (dg_name 14 nd)
  (db_cons (ds_if (dt_cmp od_gt (DE.hold (de_bin od_sub (DE.hold (de_ix ix_all (DE.hold (de_ix ix_all (dw_var 3) dw_int)) (dw_var 5))) (dw_var 12))) (DE.hold (de_ix ix_all (dw_var 3) dw_int)))
  (db_one (ds_expr (de_mt md_append (dw_var 13) (da_cons (dw_var 14) da_nil) PySem.F.plainAttrs_list PySem.F.slot_list_append PySem.F.type_list_append)))
  db_nil)
  (db_one (ds_set 12 nd (DE.hold (de_bin od_add (DE.hold (de_bin od_add (dw_var 12) (DE.hold (de_ix ix_all (DE.hold (de_ix ix_all (dw_var 3) dw_int)) (dw_var 5))))) (DE.hold (de_if (dt_cmp od_lt (dw_var 14) (DE.hold (de_callB cd_len g.n_len (da_cons (dw_var 4) da_nil)))) (de_ix ix_all (dw_var 4) (dw_var 14)) (DW.toE dw_int)))))))))
  (db_cons (ds_if (dt_cmp (od_neU hr.units) (DE.hold (de_fn G_can_burst hr (da_cons (dw_var 3) (da_cons (dw_var 4) (da_cons (dw_var 5) da_nil))))) (DE.hold (de_callTy cd_tuple g.n_tuple (da_cons (dw_var 13) da_nil))))
  (db_one (ds_ret (DW.toE dw_bl)))
  db_nil)
  (db_cons (ds_set 15 nd (DE.hold (de_bin od_add dw_int (DE.hold (de_fn G__law_draw hr (da_cons (dw_var 1) (da_cons dw_int da_nil)))))))
  (db_one (ds_if (dt_cmp (od_neU hr.units) (DE.hold (de_fn G_loss_of hr (da_cons (dw_var 3) (da_cons (dw_var 5) (da_cons (dw_var 15) da_nil))))) (DE.hold (de_ix ix_all (DE.hold (de_ix ix_all (dw_var 3) dw_int)) (DE.hold (de_bin od_div (DE.hold (de_bin od_sub (DE.hold (de_bin od_add (dw_var 5) (dw_var 15))) dw_int)) (dw_var 15))))))
  (db_one (ds_ret (DW.toE dw_bl)))
  db_nil)))))))))))))
  (db_one (ds_if (dt_not (dt_val (de_fn G__law_refused_right hr (da_cons (dw_var 1) (da_cons (dw_var 3) (da_cons (dw_var 4) da_nil))))))
  (db_one (ds_ret (DW.toE dw_bl)))
  db_nil))))))
  (db_cons (ds_asg (de_tup (da_cons (DE.data (de_tup (da_cons (DE.data (de_tup (da_cons dw_int (da_cons dw_int (da_cons dw_int (da_cons dw_int da_nil)))))) (da_cons (DE.data (de_tup (da_cons dw_int (da_cons dw_int (da_cons dw_int (da_cons dw_int da_nil)))))) (da_cons dw_int (da_cons dw_int da_nil)))))) (da_cons (DE.data (de_tup (da_cons dw_int (da_cons dw_int (da_cons dw_int (da_cons dw_int da_nil)))))) da_nil))) (dg_tup (dgs_cons (dg_name 3 nd) (dgs_cons (dg_name 4 nd) dgs_nil)) (n := 2) (hg := (gsC_len (gsC_len gsN_len)))))
  (db_one (ds_ret (de_and (de_cmp (od_eqU hr.units) (DE.hold (de_fn G_stretch_told hr (da_cons (dw_var 3) (da_cons (dw_var 4) (da_cons dw_int (da_cons dw_int (da_cons dw_int (da_cons dw_int da_nil)))))))) (DE.hold (de_tup (da_cons dw_int (da_cons dw_int da_nil))))) (de_one (de_cmp od_isN (DE.hold (de_fn G_stretch_told hr (da_cons (dw_var 3) (da_cons (dw_var 4) (da_cons dw_int (da_cons dw_int (da_cons dw_int (da_cons dw_int da_nil)))))))) dw_non))))))))
end L28
set_option maxRecDepth 100000
set_option maxHeartbeats 1000000
namespace L28
open PySem PySem.Spec PyProof.Rows L2 Em
/-! ### drawing -/
def HandOk (ds : List D) : Prop := ∃ (cells : List Int) (a l s t : Int), ds = [.list (cells.map .int), .int a, .int l, .int s, .int t] ∧ 0 ≤ a
theorem q53 : L2.ixN 5 3 = some 3 := rfl
theorem q52 : L2.ixN 5 2 = some 2 := rfl
theorem q51 : L2.ixN 5 1 = some 1 := rfl
theorem q54 : L2.ixN 5 4 = some 4 := rfl
theorem ix51 (v w x y z : D) : L2.atI [v, w, x, y, z] 1 = some w := rfl
theorem ix52 (v w x y z : D) : L2.atI [v, w, x, y, z] 2 = some x := rfl
theorem ix53 (v w x y z : D) : L2.atI [v, w, x, y, z] 3 = some y := rfl
theorem ix54 (v w x y z : D) : L2.atI [v, w, x, y, z] 4 = some z := rfl
/-- the second part: what is left over is positive, or not -/
def draw2 : SC := (sCons (sIf (cT (cBin opGt (cH (cBin opIx (cV 0) (cK (.int 2)))) (cK (.int 0))))
  (sCons (sSet 3 (cH (cBin opMod (cH (cCall (one fInt) (cCons (cH (cBin opIx (cV 0) (cK (.int 2)))) cNil))) (cV 1))))
  (sCons (sStore (cV 0) (cK (.int 2)) (cBin opDiv (cH (cBin opIx (cV 0) (cK (.int 2)))) (cV 1)))
  (sRet (cV 3))))
  sNil)
  (sCons (sStore (cV 0) (cK (.int 4)) (cBin opAdd (cH (cBin opIx (cV 0) (cK (.int 4)))) (cK (.int 1))))
  (sCons (sSet 4 (cH (cBin opMod (cH (cCall (one fInt) (cCons (cH (cBin opMul (cH (cCall (one fInt) (cCons (cH (cBin opAdd (cH (cBin opIx (cV 0) (cK (.int 3)))) (cH (cBin opMul (cK (.int 7919)) (cH (cBin opIx (cV 0) (cK (.int 4)))))))) cNil))) (cK (.int 40692)))) cNil))) (cK (.int 2147483647)))))
  (sCons (sSet 4 (cH (cBin opMod (cH (cCall (one fInt) (cCons (cH (cBin opMul (cV 4) (cH (cBin opAdd (cH (cBin opDiv (cV 4) (cK (.int 1009)))) (cK (.int 69621)))))) cNil))) (cK (.int 2147483647)))))
  (sCons (sSet 4 (cH (cBin opMod (cH (cCall (one fInt) (cCons (cH (cBin opMul (cV 4) (cH (cBin opAdd (cH (cBin opDiv (cV 4) (cK (.int 2003)))) (cK (.int 40014)))))) cNil))) (cK (.int 2147483563)))))
  (sRet (cBin opMod (cH (cCall (one fInt) (cCons (cH (cBin opDiv (cV 4) (cK (.int 16)))) cNil))) (cV 1))))))))
def draw1 : SC := (sIf (cAndT (cT (cBin (opEq false) (cH (cBin opIx (cV 0) (cK (.int 2)))) (cK (.int 0)))) (cT (cBin opLt (cH (cBin opIx (cV 0) (cK (.int 1)))) (cH (cCall (one fLen) (cCons (cH (cBin opIx (cV 0) (cK (.int 0)))) cNil))))))
  (sCons (sSet 2 (cH (cBin opIx (cH (cBin opIx (cV 0) (cK (.int 0)))) (cH (cBin opIx (cV 0) (cK (.int 1)))))))
  (sCons (sStore (cV 0) (cK (.int 1)) (cBin opAdd (cH (cBin opIx (cV 0) (cK (.int 1)))) (cK (.int 1))))
  (sCons (sStore (cV 0) (cK (.int 3)) (cBin opMod (cH (cCall (one fInt) (cCons (cH (cBin opAdd (cH (cBin opAdd (cH (cBin opMul (cH (cBin opIx (cV 0) (cK (.int 3)))) (cK (.int 69621)))) (cH (cBin opMul (cV 2) (cK (.int 48271)))))) (cK (.int 17)))) cNil))) (cK (.int 2147483629))))
  (sIf (cT (cBin opGe (cV 2) (cH (cBin opPow (cK (.int 10)) (cK (.int 18))))))
  (sStore (cV 0) (cK (.int 2)) (cV 2))
  sNil))))
  sNil)
theorem draw_body : C__law_draw = sCons draw1 draw2 := rfl
theorem draw1_ok {n : Nat} {μ : Mem} {ds : List D} {m : Int} (h : μ[n]? = some (.lst ds)) (hk : HandOk ds) : ∃ (z : Option R) (ds' : List D), draw1 [some (.c n), some (.d (.int m)), none, none, none] μ = .nx [some (.c n), some (.d (.int m)), z, none, none] (μ.set n (.lst ds')) ∧ HandOk ds' := by
  obtain ⟨cells, a, l, s, t, rfl, ha⟩ := hk
  have g1 := fun c' => get_set (c' := c') h
  have same : μ = μ.set n (.lst [.list (cells.map .int), .int a, .int l, .int s, .int t]) := by
    apply List.ext_getElem?
    intro i
    by_cases hi : n = i
    · subst hi; rw [h, get_set h]
    · rw [List.getElem?_set_ne hi]
  by_cases hl : (l == 0) = true
  · by_cases hal : decide (a < (((cells.map PyData.int).length : Nat) : Int)) = true
    · have hal' := of_decide_eq_true hal
      obtain ⟨x, hx⟩ : ∃ x : Int, L2.atI (cells.map PyData.int) a = some (.int x) := by
        have z3 : a.toNat < cells.length := by rw [List.length_map] at hal'; omega
        refine ⟨cells[a.toNat], ?_⟩
        unfold L2.atI L2.ixN
        rw [if_pos ha, if_pos hal']
        simp only [Option.bind_some]
        rw [List.getElem?_map, List.getElem?_eq_getElem z3]
        rfl
      have na : decide (Int.natAbs 10 < 18446744073709551616) = true := by decide
      by_cases hb : decide ((1000000000000000000 : Int) ≤ x) = true
      · simp only [draw1, cV_, cK_, cBin_, cCall_, cCons_, cNil_, cH_, cD_, cA_, cT_, cIf_, cAndT_, cOrT_, cNotT_, cAndV_, cOrV_, cNotV_, cChain_, cSl_, cPart_, cNoPart_, cMt_, cIsi_, cNeg_, cFn_, sNil_, sCons_, sIf_, sSet_, sPar_, sExpr_, sRet_, sRetN_, sRaise_, sBrk_, sCnt_, sStore_, fnOf_, iAny_, iR1_, iR2_, iEn_, gN_, gT_, gsN_, gsC_, stepS_, cYes_, lcF_, bT, iP, isTy, tyName, opTup, opLst, opAdd, opII, cDivB, opMul, opOrd, opEq, kD_nn, kD_ii, kD_bb, kD_ss, kD_ni, kD_nb, kD_ns, kD_in, kD_bn, kD_sn, kD_is, kD_si, kD_bs, kD_sb, kD_tuple1, kD_tuple2, kD_list1, kD_list2, kD_ib, kD_bi, opIsN, opIx, opSl, one, fLen, fInt, fAbs, fTup, fList, see, hold, toD, adopt, Rs.bind, Rs.thenS, opStore, expo, itmOf, wipeR, mAppend, mExtend, sAsg_, List.mapM_cons, List.mapM_nil, Option.bind_eq_bind, Option.bind_some, Option.pure_def, List.append_assoc, sz0, sy0, sz1, sy1, sz2, sy2, sz3, sy3, sz4, sy4, sz5, sy5, sz6, sy6, sz7, sy7, sz8, sy8, sz9, sy9, sz10, sy10, sz11, sy11, sz12, sy12, sz13, sy13, sz14, sy14, sz15, sy15, sz16, sy16, sz17, sy17, sz18, sy18, sz19, sy19, sz20, sy20, sz21, sy21, sz22, sy22, sz23, sy23, sz24, sy24, sz25, sy25, sz26, sy26, sz27, sy27, sz28, sy28, sz29, sy29, sz30, sy30, sz31, sy31, sz32, sy32, sz33, sy33, sz34, sy34, sz35, sy35, sz36, sy36, sz37, sy37, sz38, sy38, sz39, sy39, sz40, sy40, sPar3_, iZp_, cIsE_, zipOf, isL, opRepT, opIsB, fMax2, fMin2, mCountB, mIndexB, bools0, bools1, List.getElem?_cons_zero, List.getElem?_cons_succ, List.map_cons, List.map_nil, List.length_cons, List.length_nil, List.cons_append, List.nil_append, List.replicate_succ, List.replicate_zero, List.set_cons_zero, List.set_cons_succ, Nat.zero_add, Nat.reduceAdd, Nat.reduceSub, ↓reduceIte, reduceCtorEq, String.reduceBEq, kb_NoneType_int, kb_NoneType_bool, kb_NoneType_str, kb_NoneType_tuple, kb_NoneType_list, kb_NoneType_dict, kb_bool_int, kb_bool_bool, kb_bool_str, kb_bool_tuple, kb_bool_list, kb_bool_dict, kb_int_int, kb_int_bool, kb_int_str, kb_int_tuple, kb_int_list, kb_int_dict, kb_str_int, kb_str_bool, kb_str_str, kb_str_tuple, kb_str_list, kb_str_dict, kb_list_int, kb_list_bool, kb_list_str, kb_list_tuple, kb_list_list, kb_list_dict, kb_tuple_int, kb_tuple_bool, kb_tuple_str, kb_tuple_tuple, kb_tuple_list, kb_tuple_dict, kb_dict_int, kb_dict_bool, kb_dict_str, kb_dict_tuple, kb_dict_list, kb_dict_dict, String.reduceEq, Int.reduceLT, Int.reduceLE, Int.reduceNeg, Int.reducePow, Nat.reducePow, Int.reduceToNat, Nat.reduceLT, Nat.reduceLeDiff, decide_true, decide_false, and_self, and_true, true_and, or_true, true_or, or_false, false_or, Bool.not_true, Bool.not_false, Bool.true_eq_false, Bool.false_eq_true, Option.map_some, Option.map_none, h, g1, ix0, ix51, ix52, ix53, ix54, List.set_set, q51, q52, q53, q54, PyData.eqv, hl, hal, hx, na, hb]
        exact ⟨_, _, rfl, cells, _, _, _, _, rfl, by omega⟩
      · have hb' := Bool.eq_false_iff.mpr hb
        simp only [draw1, cV_, cK_, cBin_, cCall_, cCons_, cNil_, cH_, cD_, cA_, cT_, cIf_, cAndT_, cOrT_, cNotT_, cAndV_, cOrV_, cNotV_, cChain_, cSl_, cPart_, cNoPart_, cMt_, cIsi_, cNeg_, cFn_, sNil_, sCons_, sIf_, sSet_, sPar_, sExpr_, sRet_, sRetN_, sRaise_, sBrk_, sCnt_, sStore_, fnOf_, iAny_, iR1_, iR2_, iEn_, gN_, gT_, gsN_, gsC_, stepS_, cYes_, lcF_, bT, iP, isTy, tyName, opTup, opLst, opAdd, opII, cDivB, opMul, opOrd, opEq, kD_nn, kD_ii, kD_bb, kD_ss, kD_ni, kD_nb, kD_ns, kD_in, kD_bn, kD_sn, kD_is, kD_si, kD_bs, kD_sb, kD_tuple1, kD_tuple2, kD_list1, kD_list2, kD_ib, kD_bi, opIsN, opIx, opSl, one, fLen, fInt, fAbs, fTup, fList, see, hold, toD, adopt, Rs.bind, Rs.thenS, opStore, expo, itmOf, wipeR, mAppend, mExtend, sAsg_, List.mapM_cons, List.mapM_nil, Option.bind_eq_bind, Option.bind_some, Option.pure_def, List.append_assoc, sz0, sy0, sz1, sy1, sz2, sy2, sz3, sy3, sz4, sy4, sz5, sy5, sz6, sy6, sz7, sy7, sz8, sy8, sz9, sy9, sz10, sy10, sz11, sy11, sz12, sy12, sz13, sy13, sz14, sy14, sz15, sy15, sz16, sy16, sz17, sy17, sz18, sy18, sz19, sy19, sz20, sy20, sz21, sy21, sz22, sy22, sz23, sy23, sz24, sy24, sz25, sy25, sz26, sy26, sz27, sy27, sz28, sy28, sz29, sy29, sz30, sy30, sz31, sy31, sz32, sy32, sz33, sy33, sz34, sy34, sz35, sy35, sz36, sy36, sz37, sy37, sz38, sy38, sz39, sy39, sz40, sy40, sPar3_, iZp_, cIsE_, zipOf, isL, opRepT, opIsB, fMax2, fMin2, mCountB, mIndexB, bools0, bools1, List.getElem?_cons_zero, List.getElem?_cons_succ, List.map_cons, List.map_nil, List.length_cons, List.length_nil, List.cons_append, List.nil_append, List.replicate_succ, List.replicate_zero, List.set_cons_zero, List.set_cons_succ, Nat.zero_add, Nat.reduceAdd, Nat.reduceSub, ↓reduceIte, reduceCtorEq, String.reduceBEq, kb_NoneType_int, kb_NoneType_bool, kb_NoneType_str, kb_NoneType_tuple, kb_NoneType_list, kb_NoneType_dict, kb_bool_int, kb_bool_bool, kb_bool_str, kb_bool_tuple, kb_bool_list, kb_bool_dict, kb_int_int, kb_int_bool, kb_int_str, kb_int_tuple, kb_int_list, kb_int_dict, kb_str_int, kb_str_bool, kb_str_str, kb_str_tuple, kb_str_list, kb_str_dict, kb_list_int, kb_list_bool, kb_list_str, kb_list_tuple, kb_list_list, kb_list_dict, kb_tuple_int, kb_tuple_bool, kb_tuple_str, kb_tuple_tuple, kb_tuple_list, kb_tuple_dict, kb_dict_int, kb_dict_bool, kb_dict_str, kb_dict_tuple, kb_dict_list, kb_dict_dict, String.reduceEq, Int.reduceLT, Int.reduceLE, Int.reduceNeg, Int.reducePow, Nat.reducePow, Int.reduceToNat, Nat.reduceLT, Nat.reduceLeDiff, decide_true, decide_false, and_self, and_true, true_and, or_true, true_or, or_false, false_or, Bool.not_true, Bool.not_false, Bool.true_eq_false, Bool.false_eq_true, Option.map_some, Option.map_none, h, g1, ix0, ix51, ix52, ix53, ix54, List.set_set, q51, q52, q53, q54, PyData.eqv, hl, hal, hx, na, hb']
        exact ⟨_, _, rfl, cells, _, _, _, _, rfl, by omega⟩
    · have hal' := Bool.eq_false_iff.mpr hal
      refine ⟨none, [.list (cells.map .int), .int a, .int l, .int s, .int t], ?_, cells, a, l, s, t, rfl, ha⟩
      rw [← same]
      simp only [draw1, cV_, cK_, cBin_, cCall_, cCons_, cNil_, cH_, cD_, cA_, cT_, cIf_, cAndT_, cOrT_, cNotT_, cAndV_, cOrV_, cNotV_, cChain_, cSl_, cPart_, cNoPart_, cMt_, cIsi_, cNeg_, cFn_, sNil_, sCons_, sIf_, sSet_, sPar_, sExpr_, sRet_, sRetN_, sRaise_, sBrk_, sCnt_, sStore_, fnOf_, iAny_, iR1_, iR2_, iEn_, gN_, gT_, gsN_, gsC_, stepS_, cYes_, lcF_, bT, iP, isTy, tyName, opTup, opLst, opAdd, opII, cDivB, opMul, opOrd, opEq, kD_nn, kD_ii, kD_bb, kD_ss, kD_ni, kD_nb, kD_ns, kD_in, kD_bn, kD_sn, kD_is, kD_si, kD_bs, kD_sb, kD_tuple1, kD_tuple2, kD_list1, kD_list2, kD_ib, kD_bi, opIsN, opIx, opSl, one, fLen, fInt, fAbs, fTup, fList, see, hold, toD, adopt, Rs.bind, Rs.thenS, opStore, expo, itmOf, wipeR, mAppend, mExtend, sAsg_, List.mapM_cons, List.mapM_nil, Option.bind_eq_bind, Option.bind_some, Option.pure_def, List.append_assoc, sz0, sy0, sz1, sy1, sz2, sy2, sz3, sy3, sz4, sy4, sz5, sy5, sz6, sy6, sz7, sy7, sz8, sy8, sz9, sy9, sz10, sy10, sz11, sy11, sz12, sy12, sz13, sy13, sz14, sy14, sz15, sy15, sz16, sy16, sz17, sy17, sz18, sy18, sz19, sy19, sz20, sy20, sz21, sy21, sz22, sy22, sz23, sy23, sz24, sy24, sz25, sy25, sz26, sy26, sz27, sy27, sz28, sy28, sz29, sy29, sz30, sy30, sz31, sy31, sz32, sy32, sz33, sy33, sz34, sy34, sz35, sy35, sz36, sy36, sz37, sy37, sz38, sy38, sz39, sy39, sz40, sy40, sPar3_, iZp_, cIsE_, zipOf, isL, opRepT, opIsB, fMax2, fMin2, mCountB, mIndexB, bools0, bools1, List.getElem?_cons_zero, List.getElem?_cons_succ, List.map_cons, List.map_nil, List.length_cons, List.length_nil, List.cons_append, List.nil_append, List.replicate_succ, List.replicate_zero, List.set_cons_zero, List.set_cons_succ, Nat.zero_add, Nat.reduceAdd, Nat.reduceSub, ↓reduceIte, reduceCtorEq, String.reduceBEq, kb_NoneType_int, kb_NoneType_bool, kb_NoneType_str, kb_NoneType_tuple, kb_NoneType_list, kb_NoneType_dict, kb_bool_int, kb_bool_bool, kb_bool_str, kb_bool_tuple, kb_bool_list, kb_bool_dict, kb_int_int, kb_int_bool, kb_int_str, kb_int_tuple, kb_int_list, kb_int_dict, kb_str_int, kb_str_bool, kb_str_str, kb_str_tuple, kb_str_list, kb_str_dict, kb_list_int, kb_list_bool, kb_list_str, kb_list_tuple, kb_list_list, kb_list_dict, kb_tuple_int, kb_tuple_bool, kb_tuple_str, kb_tuple_tuple, kb_tuple_list, kb_tuple_dict, kb_dict_int, kb_dict_bool, kb_dict_str, kb_dict_tuple, kb_dict_list, kb_dict_dict, String.reduceEq, Int.reduceLT, Int.reduceLE, Int.reduceNeg, Int.reducePow, Nat.reducePow, Int.reduceToNat, Nat.reduceLT, Nat.reduceLeDiff, decide_true, decide_false, and_self, and_true, true_and, or_true, true_or, or_false, false_or, Bool.not_true, Bool.not_false, Bool.true_eq_false, Bool.false_eq_true, Option.map_some, Option.map_none, h, ix0, ix51, ix52, ix53, ix54, PyData.eqv, hl, hal']
  · have hl' := Bool.eq_false_iff.mpr hl
    refine ⟨none, [.list (cells.map .int), .int a, .int l, .int s, .int t], ?_, cells, a, l, s, t, rfl, ha⟩
    rw [← same]
    simp only [draw1, cV_, cK_, cBin_, cCall_, cCons_, cNil_, cH_, cD_, cA_, cT_, cIf_, cAndT_, cOrT_, cNotT_, cAndV_, cOrV_, cNotV_, cChain_, cSl_, cPart_, cNoPart_, cMt_, cIsi_, cNeg_, cFn_, sNil_, sCons_, sIf_, sSet_, sPar_, sExpr_, sRet_, sRetN_, sRaise_, sBrk_, sCnt_, sStore_, fnOf_, iAny_, iR1_, iR2_, iEn_, gN_, gT_, gsN_, gsC_, stepS_, cYes_, lcF_, bT, iP, isTy, tyName, opTup, opLst, opAdd, opII, cDivB, opMul, opOrd, opEq, kD_nn, kD_ii, kD_bb, kD_ss, kD_ni, kD_nb, kD_ns, kD_in, kD_bn, kD_sn, kD_is, kD_si, kD_bs, kD_sb, kD_tuple1, kD_tuple2, kD_list1, kD_list2, kD_ib, kD_bi, opIsN, opIx, opSl, one, fLen, fInt, fAbs, fTup, fList, see, hold, toD, adopt, Rs.bind, Rs.thenS, opStore, expo, itmOf, wipeR, mAppend, mExtend, sAsg_, List.mapM_cons, List.mapM_nil, Option.bind_eq_bind, Option.bind_some, Option.pure_def, List.append_assoc, sz0, sy0, sz1, sy1, sz2, sy2, sz3, sy3, sz4, sy4, sz5, sy5, sz6, sy6, sz7, sy7, sz8, sy8, sz9, sy9, sz10, sy10, sz11, sy11, sz12, sy12, sz13, sy13, sz14, sy14, sz15, sy15, sz16, sy16, sz17, sy17, sz18, sy18, sz19, sy19, sz20, sy20, sz21, sy21, sz22, sy22, sz23, sy23, sz24, sy24, sz25, sy25, sz26, sy26, sz27, sy27, sz28, sy28, sz29, sy29, sz30, sy30, sz31, sy31, sz32, sy32, sz33, sy33, sz34, sy34, sz35, sy35, sz36, sy36, sz37, sy37, sz38, sy38, sz39, sy39, sz40, sy40, sPar3_, iZp_, cIsE_, zipOf, isL, opRepT, opIsB, fMax2, fMin2, mCountB, mIndexB, bools0, bools1, List.getElem?_cons_zero, List.getElem?_cons_succ, List.map_cons, List.map_nil, List.length_cons, List.length_nil, List.cons_append, List.nil_append, List.replicate_succ, List.replicate_zero, List.set_cons_zero, List.set_cons_succ, Nat.zero_add, Nat.reduceAdd, Nat.reduceSub, ↓reduceIte, reduceCtorEq, String.reduceBEq, kb_NoneType_int, kb_NoneType_bool, kb_NoneType_str, kb_NoneType_tuple, kb_NoneType_list, kb_NoneType_dict, kb_bool_int, kb_bool_bool, kb_bool_str, kb_bool_tuple, kb_bool_list, kb_bool_dict, kb_int_int, kb_int_bool, kb_int_str, kb_int_tuple, kb_int_list, kb_int_dict, kb_str_int, kb_str_bool, kb_str_str, kb_str_tuple, kb_str_list, kb_str_dict, kb_list_int, kb_list_bool, kb_list_str, kb_list_tuple, kb_list_list, kb_list_dict, kb_tuple_int, kb_tuple_bool, kb_tuple_str, kb_tuple_tuple, kb_tuple_list, kb_tuple_dict, kb_dict_int, kb_dict_bool, kb_dict_str, kb_dict_tuple, kb_dict_list, kb_dict_dict, String.reduceEq, Int.reduceLT, Int.reduceLE, Int.reduceNeg, Int.reducePow, Nat.reducePow, Int.reduceToNat, Nat.reduceLT, Nat.reduceLeDiff, decide_true, decide_false, and_self, and_true, true_and, or_true, true_or, or_false, false_or, Bool.not_true, Bool.not_false, Bool.true_eq_false, Bool.false_eq_true, Option.map_some, Option.map_none, h, ix0, ix51, ix52, ix53, ix54, PyData.eqv, hl']
theorem draw2_ok {n : Nat} {μ : Mem} {ds : List D} {m : Int} {z : Option R} (h : μ[n]? = some (.lst ds)) (hk : HandOk ds) (h0 : 0 < m) (h1 : m < 1073741824) : ∃ (r : Int) (ds' : List D), draw2 [some (.c n), some (.d (.int m)), z, none, none] μ = .rt (.d (.int r)) (μ.set n (.lst ds')) ∧ HandOk ds' ∧ 0 ≤ r ∧ r < m := by
  obtain ⟨cells, a, l, s, t, rfl, ha⟩ := hk
  have g1 := fun c' => get_set (c' := c') h
  have p1 : ∀ x : Int, 0 ≤ x % m := fun x => Int.emod_nonneg _ (by omega)
  have p2 : ∀ x : Int, x % m < m := fun x => Int.emod_lt_of_pos _ h0
  have cdiv : decide (0 < m ∧ m < 1073741824) = true := decide_eq_true ⟨h0, h1⟩
  have cmod : decide (0 < m) = true := decide_eq_true h0
  by_cases hl : decide (0 < l) = true
  · simp only [draw2, cV_, cK_, cBin_, cCall_, cCons_, cNil_, cH_, cD_, cA_, cT_, cIf_, cAndT_, cOrT_, cNotT_, cAndV_, cOrV_, cNotV_, cChain_, cSl_, cPart_, cNoPart_, cMt_, cIsi_, cNeg_, cFn_, sNil_, sCons_, sIf_, sSet_, sPar_, sExpr_, sRet_, sRetN_, sRaise_, sBrk_, sCnt_, sStore_, fnOf_, iAny_, iR1_, iR2_, iEn_, gN_, gT_, gsN_, gsC_, stepS_, cYes_, lcF_, bT, iP, isTy, tyName, opTup, opLst, opAdd, opII, cDivB, opMul, opOrd, opEq, kD_nn, kD_ii, kD_bb, kD_ss, kD_ni, kD_nb, kD_ns, kD_in, kD_bn, kD_sn, kD_is, kD_si, kD_bs, kD_sb, kD_tuple1, kD_tuple2, kD_list1, kD_list2, kD_ib, kD_bi, opIsN, opIx, opSl, one, fLen, fInt, fAbs, fTup, fList, see, hold, toD, adopt, Rs.bind, Rs.thenS, opStore, expo, itmOf, wipeR, mAppend, mExtend, sAsg_, List.mapM_cons, List.mapM_nil, Option.bind_eq_bind, Option.bind_some, Option.pure_def, List.append_assoc, sz0, sy0, sz1, sy1, sz2, sy2, sz3, sy3, sz4, sy4, sz5, sy5, sz6, sy6, sz7, sy7, sz8, sy8, sz9, sy9, sz10, sy10, sz11, sy11, sz12, sy12, sz13, sy13, sz14, sy14, sz15, sy15, sz16, sy16, sz17, sy17, sz18, sy18, sz19, sy19, sz20, sy20, sz21, sy21, sz22, sy22, sz23, sy23, sz24, sy24, sz25, sy25, sz26, sy26, sz27, sy27, sz28, sy28, sz29, sy29, sz30, sy30, sz31, sy31, sz32, sy32, sz33, sy33, sz34, sy34, sz35, sy35, sz36, sy36, sz37, sy37, sz38, sy38, sz39, sy39, sz40, sy40, sPar3_, iZp_, cIsE_, zipOf, isL, opRepT, opIsB, fMax2, fMin2, mCountB, mIndexB, bools0, bools1, List.getElem?_cons_zero, List.getElem?_cons_succ, List.map_cons, List.map_nil, List.length_cons, List.length_nil, List.cons_append, List.nil_append, List.replicate_succ, List.replicate_zero, List.set_cons_zero, List.set_cons_succ, Nat.zero_add, Nat.reduceAdd, Nat.reduceSub, ↓reduceIte, reduceCtorEq, String.reduceBEq, kb_NoneType_int, kb_NoneType_bool, kb_NoneType_str, kb_NoneType_tuple, kb_NoneType_list, kb_NoneType_dict, kb_bool_int, kb_bool_bool, kb_bool_str, kb_bool_tuple, kb_bool_list, kb_bool_dict, kb_int_int, kb_int_bool, kb_int_str, kb_int_tuple, kb_int_list, kb_int_dict, kb_str_int, kb_str_bool, kb_str_str, kb_str_tuple, kb_str_list, kb_str_dict, kb_list_int, kb_list_bool, kb_list_str, kb_list_tuple, kb_list_list, kb_list_dict, kb_tuple_int, kb_tuple_bool, kb_tuple_str, kb_tuple_tuple, kb_tuple_list, kb_tuple_dict, kb_dict_int, kb_dict_bool, kb_dict_str, kb_dict_tuple, kb_dict_list, kb_dict_dict, String.reduceEq, Int.reduceLT, Int.reduceLE, Int.reduceNeg, Int.reducePow, Nat.reducePow, Int.reduceToNat, Nat.reduceLT, Nat.reduceLeDiff, decide_true, decide_false, and_self, and_true, true_and, or_true, true_or, or_false, false_or, Bool.not_true, Bool.not_false, Bool.true_eq_false, Bool.false_eq_true, Option.map_some, Option.map_none, h, g1, ix0, ix51, ix52, ix53, ix54, List.set_set, q51, q52, q53, q54, hl, cdiv, cmod]
    exact ⟨_, _, rfl, ⟨cells, _, _, _, _, rfl, ha⟩, p1 _, p2 _⟩
  · have hl' := Bool.eq_false_iff.mpr hl
    simp only [draw2, cV_, cK_, cBin_, cCall_, cCons_, cNil_, cH_, cD_, cA_, cT_, cIf_, cAndT_, cOrT_, cNotT_, cAndV_, cOrV_, cNotV_, cChain_, cSl_, cPart_, cNoPart_, cMt_, cIsi_, cNeg_, cFn_, sNil_, sCons_, sIf_, sSet_, sPar_, sExpr_, sRet_, sRetN_, sRaise_, sBrk_, sCnt_, sStore_, fnOf_, iAny_, iR1_, iR2_, iEn_, gN_, gT_, gsN_, gsC_, stepS_, cYes_, lcF_, bT, iP, isTy, tyName, opTup, opLst, opAdd, opII, cDivB, opMul, opOrd, opEq, kD_nn, kD_ii, kD_bb, kD_ss, kD_ni, kD_nb, kD_ns, kD_in, kD_bn, kD_sn, kD_is, kD_si, kD_bs, kD_sb, kD_tuple1, kD_tuple2, kD_list1, kD_list2, kD_ib, kD_bi, opIsN, opIx, opSl, one, fLen, fInt, fAbs, fTup, fList, see, hold, toD, adopt, Rs.bind, Rs.thenS, opStore, expo, itmOf, wipeR, mAppend, mExtend, sAsg_, List.mapM_cons, List.mapM_nil, Option.bind_eq_bind, Option.bind_some, Option.pure_def, List.append_assoc, sz0, sy0, sz1, sy1, sz2, sy2, sz3, sy3, sz4, sy4, sz5, sy5, sz6, sy6, sz7, sy7, sz8, sy8, sz9, sy9, sz10, sy10, sz11, sy11, sz12, sy12, sz13, sy13, sz14, sy14, sz15, sy15, sz16, sy16, sz17, sy17, sz18, sy18, sz19, sy19, sz20, sy20, sz21, sy21, sz22, sy22, sz23, sy23, sz24, sy24, sz25, sy25, sz26, sy26, sz27, sy27, sz28, sy28, sz29, sy29, sz30, sy30, sz31, sy31, sz32, sy32, sz33, sy33, sz34, sy34, sz35, sy35, sz36, sy36, sz37, sy37, sz38, sy38, sz39, sy39, sz40, sy40, sPar3_, iZp_, cIsE_, zipOf, isL, opRepT, opIsB, fMax2, fMin2, mCountB, mIndexB, bools0, bools1, List.getElem?_cons_zero, List.getElem?_cons_succ, List.map_cons, List.map_nil, List.length_cons, List.length_nil, List.cons_append, List.nil_append, List.replicate_succ, List.replicate_zero, List.set_cons_zero, List.set_cons_succ, Nat.zero_add, Nat.reduceAdd, Nat.reduceSub, ↓reduceIte, reduceCtorEq, String.reduceBEq, kb_NoneType_int, kb_NoneType_bool, kb_NoneType_str, kb_NoneType_tuple, kb_NoneType_list, kb_NoneType_dict, kb_bool_int, kb_bool_bool, kb_bool_str, kb_bool_tuple, kb_bool_list, kb_bool_dict, kb_int_int, kb_int_bool, kb_int_str, kb_int_tuple, kb_int_list, kb_int_dict, kb_str_int, kb_str_bool, kb_str_str, kb_str_tuple, kb_str_list, kb_str_dict, kb_list_int, kb_list_bool, kb_list_str, kb_list_tuple, kb_list_list, kb_list_dict, kb_tuple_int, kb_tuple_bool, kb_tuple_str, kb_tuple_tuple, kb_tuple_list, kb_tuple_dict, kb_dict_int, kb_dict_bool, kb_dict_str, kb_dict_tuple, kb_dict_list, kb_dict_dict, String.reduceEq, Int.reduceLT, Int.reduceLE, Int.reduceNeg, Int.reducePow, Nat.reducePow, Int.reduceToNat, Nat.reduceLT, Nat.reduceLeDiff, decide_true, decide_false, and_self, and_true, true_and, or_true, true_or, or_false, false_or, Bool.not_true, Bool.not_false, Bool.true_eq_false, Bool.false_eq_true, Option.map_some, Option.map_none, h, g1, ix0, ix51, ix52, ix53, ix54, List.set_set, q51, q52, q53, q54, hl', cdiv, cmod]
    repeat (rw [if_pos (by omega)]; simp only [cV_, cK_, cBin_, cCall_, cCons_, cNil_, cH_, cD_, cA_, cT_, cIf_, cAndT_, cOrT_, cNotT_, cAndV_, cOrV_, cNotV_, cChain_, cSl_, cPart_, cNoPart_, cMt_, cIsi_, cNeg_, cFn_, sNil_, sCons_, sIf_, sSet_, sPar_, sExpr_, sRet_, sRetN_, sRaise_, sBrk_, sCnt_, sStore_, fnOf_, iAny_, iR1_, iR2_, iEn_, gN_, gT_, gsN_, gsC_, stepS_, cYes_, lcF_, bT, iP, isTy, tyName, opTup, opLst, opAdd, opII, cDivB, opMul, opOrd, opEq, kD_nn, kD_ii, kD_bb, kD_ss, kD_ni, kD_nb, kD_ns, kD_in, kD_bn, kD_sn, kD_is, kD_si, kD_bs, kD_sb, kD_tuple1, kD_tuple2, kD_list1, kD_list2, kD_ib, kD_bi, opIsN, opIx, opSl, one, fLen, fInt, fAbs, fTup, fList, see, hold, toD, adopt, Rs.bind, Rs.thenS, opStore, expo, itmOf, wipeR, mAppend, mExtend, sAsg_, List.mapM_cons, List.mapM_nil, Option.bind_eq_bind, Option.bind_some, Option.pure_def, List.append_assoc, sz0, sy0, sz1, sy1, sz2, sy2, sz3, sy3, sz4, sy4, sz5, sy5, sz6, sy6, sz7, sy7, sz8, sy8, sz9, sy9, sz10, sy10, sz11, sy11, sz12, sy12, sz13, sy13, sz14, sy14, sz15, sy15, sz16, sy16, sz17, sy17, sz18, sy18, sz19, sy19, sz20, sy20, sz21, sy21, sz22, sy22, sz23, sy23, sz24, sy24, sz25, sy25, sz26, sy26, sz27, sy27, sz28, sy28, sz29, sy29, sz30, sy30, sz31, sy31, sz32, sy32, sz33, sy33, sz34, sy34, sz35, sy35, sz36, sy36, sz37, sy37, sz38, sy38, sz39, sy39, sz40, sy40, sPar3_, iZp_, cIsE_, zipOf, isL, opRepT, opIsB, fMax2, fMin2, mCountB, mIndexB, bools0, bools1, List.getElem?_cons_zero, List.getElem?_cons_succ, List.map_cons, List.map_nil, List.length_cons, List.length_nil, List.cons_append, List.nil_append, List.replicate_succ, List.replicate_zero, List.set_cons_zero, List.set_cons_succ, Nat.zero_add, Nat.reduceAdd, Nat.reduceSub, ↓reduceIte, reduceCtorEq, String.reduceBEq, kb_NoneType_int, kb_NoneType_bool, kb_NoneType_str, kb_NoneType_tuple, kb_NoneType_list, kb_NoneType_dict, kb_bool_int, kb_bool_bool, kb_bool_str, kb_bool_tuple, kb_bool_list, kb_bool_dict, kb_int_int, kb_int_bool, kb_int_str, kb_int_tuple, kb_int_list, kb_int_dict, kb_str_int, kb_str_bool, kb_str_str, kb_str_tuple, kb_str_list, kb_str_dict, kb_list_int, kb_list_bool, kb_list_str, kb_list_tuple, kb_list_list, kb_list_dict, kb_tuple_int, kb_tuple_bool, kb_tuple_str, kb_tuple_tuple, kb_tuple_list, kb_tuple_dict, kb_dict_int, kb_dict_bool, kb_dict_str, kb_dict_tuple, kb_dict_list, kb_dict_dict, String.reduceEq, Int.reduceLT, Int.reduceLE, Int.reduceNeg, Int.reducePow, Nat.reducePow, Int.reduceToNat, Nat.reduceLT, Nat.reduceLeDiff, decide_true, decide_false, and_self, and_true, true_and, or_true, true_or, or_false, false_or, Bool.not_true, Bool.not_false, Bool.true_eq_false, Bool.false_eq_true, Option.map_some, Option.map_none, cmod])
    exact ⟨_, _, rfl, ⟨cells, _, _, _, _, rfl, ha⟩, p1 _, p2 _⟩
theorem draw_ok {n : Nat} {μ : Mem} {ds : List D} {m : Int} (h : μ[n]? = some (.lst ds)) (hk : HandOk ds) (h0 : 0 < m) (h1 : m < 1073741824) : ∃ (r : Int) (ds' : List D), F__law_draw [.c n, .d (.int m)] μ = .ok (.d (.int r)) (μ.set n (.lst ds')) ∧ HandOk ds' ∧ 0 ≤ r ∧ r < m := by
  obtain ⟨z, ds1, e1, k1⟩ := draw1_ok (m := m) h hk
  obtain ⟨r, ds2, e2, k2, r0, r1⟩ := draw2_ok (z := z) (get_set h) k1 h0 h1
  rw [List.set_set] at e2
  refine ⟨r, ds2, ?_, k2, r0, r1⟩
  have e3 : C__law_draw [some (.c n), some (.d (.int m)), none, none, none] μ = .rt (.d (.int r)) (μ.set n (.lst ds2)) := by rw [draw_body, sCons_nx e1, e2]
  show expo μ.length (C__law_draw [some (.c n), some (.d (.int m)), none, none, none] μ) = _
  rw [e3]
  simp only [expo, take_set]
/-! ### the hand in the first cell -/
def HM (μ : Mem) : Prop := ∃ ds, μ[0]? = some (.lst ds) ∧ HandOk ds
theorem HM.app {μ : Mem} (h : HM μ) (t : Mem) : HM (μ ++ t) := by
  obtain ⟨ds, h1, h2⟩ := h
  exact ⟨ds, by rw [List.getElem?_append_left (get_lt h1)]; exact h1, h2⟩
theorem draw_hm {μ : Mem} {m : Int} (h : HM μ) (h0 : 0 < m) (h1 : m < 1073741824) (t : Mem) : ∃ (r : Int) (μ' : Mem), F__law_draw [.c 0, .d (.int m)] (μ ++ t) = .ok (.d (.int r)) (μ' ++ t) ∧ HM μ' ∧ μ'.length = μ.length ∧ 0 ≤ r ∧ r < m := by
  obtain ⟨ds, e1, e2⟩ := h
  have e3 : (μ ++ t)[0]? = some (.lst ds) := by rw [List.getElem?_append_left (get_lt e1)]; exact e1
  obtain ⟨r, ds', e, hk, r0, r1⟩ := draw_ok e3 e2 h0 h1
  refine ⟨r, μ.set 0 (.lst ds'), ?_, ⟨ds', get_set e1, hk⟩, by simp, r0, r1⟩
  rw [e, List.set_append_left _ _ (get_lt e1)]
theorem any_hm {μ : Mem} {xs : List D} (h : HM μ) (h0 : 0 < xs.length) (h1 : xs.length < 1000) (t : Mem) : ∃ (d : D) (μ' : Mem), F__law_any [.c 0, .d (.list xs)] (μ ++ t) = .ok (.d d) (μ' ++ t) ∧ HM μ' ∧ μ'.length = μ.length ∧ d ∈ xs := by
  obtain ⟨r, μ', e, hk', hl, r0, r1⟩ := draw_hm (m := ((xs.length : Nat) : Int)) h (by omega) (by omega) t
  have hr : r.toNat < xs.length := by omega
  have hx : L2.atI xs r = some xs[r.toNat] := by
    have := atI_at (List.getElem?_eq_getElem hr)
    rwa [show ((r.toNat : Nat) : Int) = r from by omega] at this
  refine ⟨xs[r.toNat], μ', ?_, hk', hl, List.getElem_mem hr⟩
  have el : (μ ++ t).length = (μ' ++ t).length := by simp [hl]
  simp only [F__law_any, C__law_any, cV_, cK_, cBin_, cCall_, cCons_, cNil_, cH_, cD_, cA_, cT_, cIf_, cAndT_, cOrT_, cNotT_, cAndV_, cOrV_, cNotV_, cChain_, cSl_, cPart_, cNoPart_, cMt_, cIsi_, cNeg_, cFn_, sNil_, sCons_, sIf_, sSet_, sPar_, sExpr_, sRet_, sRetN_, sRaise_, sBrk_, sCnt_, sStore_, fnOf_, iAny_, iR1_, iR2_, iEn_, gN_, gT_, gsN_, gsC_, stepS_, cYes_, lcF_, bT, iP, isTy, tyName, opTup, opLst, opAdd, opII, cDivB, opMul, opOrd, opEq, kD_nn, kD_ii, kD_bb, kD_ss, kD_ni, kD_nb, kD_ns, kD_in, kD_bn, kD_sn, kD_is, kD_si, kD_bs, kD_sb, kD_tuple1, kD_tuple2, kD_list1, kD_list2, kD_ib, kD_bi, opIsN, opIx, opSl, one, fLen, fInt, fAbs, fTup, fList, see, hold, toD, adopt, Rs.bind, Rs.thenS, opStore, expo, itmOf, wipeR, mAppend, mExtend, sAsg_, List.mapM_cons, List.mapM_nil, Option.bind_eq_bind, Option.bind_some, Option.pure_def, List.append_assoc, sz0, sy0, sz1, sy1, sz2, sy2, sz3, sy3, sz4, sy4, sz5, sy5, sz6, sy6, sz7, sy7, sz8, sy8, sz9, sy9, sz10, sy10, sz11, sy11, sz12, sy12, sz13, sy13, sz14, sy14, sz15, sy15, sz16, sy16, sz17, sy17, sz18, sy18, sz19, sy19, sz20, sy20, sz21, sy21, sz22, sy22, sz23, sy23, sz24, sy24, sz25, sy25, sz26, sy26, sz27, sy27, sz28, sy28, sz29, sy29, sz30, sy30, sz31, sy31, sz32, sy32, sz33, sy33, sz34, sy34, sz35, sy35, sz36, sy36, sz37, sy37, sz38, sy38, sz39, sy39, sz40, sy40, sPar3_, iZp_, cIsE_, zipOf, isL, opRepT, opIsB, fMax2, fMin2, mCountB, mIndexB, bools0, bools1, List.getElem?_cons_zero, List.getElem?_cons_succ, List.map_cons, List.map_nil, List.length_cons, List.length_nil, List.cons_append, List.nil_append, List.replicate_succ, List.replicate_zero, List.set_cons_zero, List.set_cons_succ, Nat.zero_add, Nat.reduceAdd, Nat.reduceSub, ↓reduceIte, reduceCtorEq, String.reduceBEq, kb_NoneType_int, kb_NoneType_bool, kb_NoneType_str, kb_NoneType_tuple, kb_NoneType_list, kb_NoneType_dict, kb_bool_int, kb_bool_bool, kb_bool_str, kb_bool_tuple, kb_bool_list, kb_bool_dict, kb_int_int, kb_int_bool, kb_int_str, kb_int_tuple, kb_int_list, kb_int_dict, kb_str_int, kb_str_bool, kb_str_str, kb_str_tuple, kb_str_list, kb_str_dict, kb_list_int, kb_list_bool, kb_list_str, kb_list_tuple, kb_list_list, kb_list_dict, kb_tuple_int, kb_tuple_bool, kb_tuple_str, kb_tuple_tuple, kb_tuple_list, kb_tuple_dict, kb_dict_int, kb_dict_bool, kb_dict_str, kb_dict_tuple, kb_dict_list, kb_dict_dict, String.reduceEq, Int.reduceLT, Int.reduceLE, Int.reduceNeg, Int.reducePow, Nat.reducePow, Int.reduceToNat, Nat.reduceLT, Nat.reduceLeDiff, decide_true, decide_false, and_self, and_true, true_and, or_true, true_or, or_false, false_or, Bool.not_true, Bool.not_false, Bool.true_eq_false, Bool.false_eq_true, Option.map_some, Option.map_none, e, hx, el, List.take_length]
end L28
set_option maxRecDepth 100000
set_option maxHeartbeats 1000000
namespace L28
open PySem PySem.Spec PyProof.Rows L2 Em
theorem int_ok (x : D) (hx : noDict x = true) (μ : Mem) : F_is_integer [.d x] μ = .ok (.d (.bool (isIntD x))) μ := by
  cases x <;> first | (simp only [F_is_integer, C_is_integer, cV_, cK_, cBin_, cCall_, cCons_, cNil_, cH_, cD_, cA_, cT_, cIf_, cAndT_, cOrT_, cNotT_, cAndV_, cOrV_, cNotV_, cChain_, cSl_, cPart_, cNoPart_, cMt_, cIsi_, cNeg_, cFn_, sNil_, sCons_, sIf_, sSet_, sPar_, sExpr_, sRet_, sRetN_, sRaise_, sBrk_, sCnt_, sStore_, fnOf_, iAny_, iR1_, iR2_, iEn_, gN_, gT_, gsN_, gsC_, stepS_, cYes_, lcF_, bT, iP, isTy, tyName, opTup, opLst, opAdd, opII, cDivB, opMul, opOrd, opEq, kD_nn, kD_ii, kD_bb, kD_ss, kD_ni, kD_nb, kD_ns, kD_in, kD_bn, kD_sn, kD_is, kD_si, kD_bs, kD_sb, kD_tuple1, kD_tuple2, kD_list1, kD_list2, kD_ib, kD_bi, opIsN, opIx, opSl, one, fLen, fInt, fAbs, fTup, fList, see, hold, toD, adopt, Rs.bind, Rs.thenS, opStore, expo, itmOf, wipeR, mAppend, mExtend, sAsg_, List.mapM_cons, List.mapM_nil, Option.bind_eq_bind, Option.bind_some, Option.pure_def, List.append_assoc, sz0, sy0, sz1, sy1, sz2, sy2, sz3, sy3, sz4, sy4, sz5, sy5, sz6, sy6, sz7, sy7, sz8, sy8, sz9, sy9, sz10, sy10, sz11, sy11, sz12, sy12, sz13, sy13, sz14, sy14, sz15, sy15, sz16, sy16, sz17, sy17, sz18, sy18, sz19, sy19, sz20, sy20, sz21, sy21, sz22, sy22, sz23, sy23, sz24, sy24, sz25, sy25, sz26, sy26, sz27, sy27, sz28, sy28, sz29, sy29, sz30, sy30, sz31, sy31, sz32, sy32, sz33, sy33, sz34, sy34, sz35, sy35, sz36, sy36, sz37, sy37, sz38, sy38, sz39, sy39, sz40, sy40, sPar3_, iZp_, cIsE_, zipOf, isL, opRepT, opIsB, fMax2, fMin2, mCountB, mIndexB, bools0, bools1, List.getElem?_cons_zero, List.getElem?_cons_succ, List.map_cons, List.map_nil, List.length_cons, List.length_nil, List.cons_append, List.nil_append, List.replicate_succ, List.replicate_zero, List.set_cons_zero, List.set_cons_succ, Nat.zero_add, Nat.reduceAdd, Nat.reduceSub, ↓reduceIte, reduceCtorEq, String.reduceBEq, kb_NoneType_int, kb_NoneType_bool, kb_NoneType_str, kb_NoneType_tuple, kb_NoneType_list, kb_NoneType_dict, kb_bool_int, kb_bool_bool, kb_bool_str, kb_bool_tuple, kb_bool_list, kb_bool_dict, kb_int_int, kb_int_bool, kb_int_str, kb_int_tuple, kb_int_list, kb_int_dict, kb_str_int, kb_str_bool, kb_str_str, kb_str_tuple, kb_str_list, kb_str_dict, kb_list_int, kb_list_bool, kb_list_str, kb_list_tuple, kb_list_list, kb_list_dict, kb_tuple_int, kb_tuple_bool, kb_tuple_str, kb_tuple_tuple, kb_tuple_list, kb_tuple_dict, kb_dict_int, kb_dict_bool, kb_dict_str, kb_dict_tuple, kb_dict_list, kb_dict_dict, String.reduceEq, Int.reduceLT, Int.reduceLE, Int.reduceNeg, Int.reducePow, Nat.reducePow, Int.reduceToNat, Nat.reduceLT, Nat.reduceLeDiff, decide_true, decide_false, and_self, and_true, true_and, or_true, true_or, or_false, false_or, Bool.not_true, Bool.not_false, Bool.true_eq_false, Bool.false_eq_true, Option.map_some, Option.map_none, List.take_length, isIntD]; done) | (simp [noDict] at hx)
theorem within_ok (x : D) (lo hi : Int) (hx : noDict x = true) (μ : Mem) : F_is_within [.d x, .d (.int lo), .d (.int hi)] μ = .ok (.d (.bool (withinD lo hi x))) μ := by
  have h := int_ok x hx
  cases x <;> first | (simp only [F_is_within, C_is_within, cV_, cK_, cBin_, cCall_, cCons_, cNil_, cH_, cD_, cA_, cT_, cIf_, cAndT_, cOrT_, cNotT_, cAndV_, cOrV_, cNotV_, cChain_, cSl_, cPart_, cNoPart_, cMt_, cIsi_, cNeg_, cFn_, sNil_, sCons_, sIf_, sSet_, sPar_, sExpr_, sRet_, sRetN_, sRaise_, sBrk_, sCnt_, sStore_, fnOf_, iAny_, iR1_, iR2_, iEn_, gN_, gT_, gsN_, gsC_, stepS_, cYes_, lcF_, bT, iP, isTy, tyName, opTup, opLst, opAdd, opII, cDivB, opMul, opOrd, opEq, kD_nn, kD_ii, kD_bb, kD_ss, kD_ni, kD_nb, kD_ns, kD_in, kD_bn, kD_sn, kD_is, kD_si, kD_bs, kD_sb, kD_tuple1, kD_tuple2, kD_list1, kD_list2, kD_ib, kD_bi, opIsN, opIx, opSl, one, fLen, fInt, fAbs, fTup, fList, see, hold, toD, adopt, Rs.bind, Rs.thenS, opStore, expo, itmOf, wipeR, mAppend, mExtend, sAsg_, List.mapM_cons, List.mapM_nil, Option.bind_eq_bind, Option.bind_some, Option.pure_def, List.append_assoc, sz0, sy0, sz1, sy1, sz2, sy2, sz3, sy3, sz4, sy4, sz5, sy5, sz6, sy6, sz7, sy7, sz8, sy8, sz9, sy9, sz10, sy10, sz11, sy11, sz12, sy12, sz13, sy13, sz14, sy14, sz15, sy15, sz16, sy16, sz17, sy17, sz18, sy18, sz19, sy19, sz20, sy20, sz21, sy21, sz22, sy22, sz23, sy23, sz24, sy24, sz25, sy25, sz26, sy26, sz27, sy27, sz28, sy28, sz29, sy29, sz30, sy30, sz31, sy31, sz32, sy32, sz33, sy33, sz34, sy34, sz35, sy35, sz36, sy36, sz37, sy37, sz38, sy38, sz39, sy39, sz40, sy40, sPar3_, iZp_, cIsE_, zipOf, isL, opRepT, opIsB, fMax2, fMin2, mCountB, mIndexB, bools0, bools1, List.getElem?_cons_zero, List.getElem?_cons_succ, List.map_cons, List.map_nil, List.length_cons, List.length_nil, List.cons_append, List.nil_append, List.replicate_succ, List.replicate_zero, List.set_cons_zero, List.set_cons_succ, Nat.zero_add, Nat.reduceAdd, Nat.reduceSub, ↓reduceIte, reduceCtorEq, String.reduceBEq, kb_NoneType_int, kb_NoneType_bool, kb_NoneType_str, kb_NoneType_tuple, kb_NoneType_list, kb_NoneType_dict, kb_bool_int, kb_bool_bool, kb_bool_str, kb_bool_tuple, kb_bool_list, kb_bool_dict, kb_int_int, kb_int_bool, kb_int_str, kb_int_tuple, kb_int_list, kb_int_dict, kb_str_int, kb_str_bool, kb_str_str, kb_str_tuple, kb_str_list, kb_str_dict, kb_list_int, kb_list_bool, kb_list_str, kb_list_tuple, kb_list_list, kb_list_dict, kb_tuple_int, kb_tuple_bool, kb_tuple_str, kb_tuple_tuple, kb_tuple_list, kb_tuple_dict, kb_dict_int, kb_dict_bool, kb_dict_str, kb_dict_tuple, kb_dict_list, kb_dict_dict, String.reduceEq, Int.reduceLT, Int.reduceLE, Int.reduceNeg, Int.reducePow, Nat.reducePow, Int.reduceToNat, Nat.reduceLT, Nat.reduceLeDiff, decide_true, decide_false, and_self, and_true, true_and, or_true, true_or, or_false, false_or, Bool.not_true, Bool.not_false, Bool.true_eq_false, Bool.false_eq_true, Option.map_some, Option.map_none, h, List.take_length, isIntD, withinD]; done) | (simp [noDict] at hx; done) | skip
  rename_i i
  by_cases h1 : decide (lo ≤ i) = true
  · simp only [F_is_within, C_is_within, cV_, cK_, cBin_, cCall_, cCons_, cNil_, cH_, cD_, cA_, cT_, cIf_, cAndT_, cOrT_, cNotT_, cAndV_, cOrV_, cNotV_, cChain_, cSl_, cPart_, cNoPart_, cMt_, cIsi_, cNeg_, cFn_, sNil_, sCons_, sIf_, sSet_, sPar_, sExpr_, sRet_, sRetN_, sRaise_, sBrk_, sCnt_, sStore_, fnOf_, iAny_, iR1_, iR2_, iEn_, gN_, gT_, gsN_, gsC_, stepS_, cYes_, lcF_, bT, iP, isTy, tyName, opTup, opLst, opAdd, opII, cDivB, opMul, opOrd, opEq, kD_nn, kD_ii, kD_bb, kD_ss, kD_ni, kD_nb, kD_ns, kD_in, kD_bn, kD_sn, kD_is, kD_si, kD_bs, kD_sb, kD_tuple1, kD_tuple2, kD_list1, kD_list2, kD_ib, kD_bi, opIsN, opIx, opSl, one, fLen, fInt, fAbs, fTup, fList, see, hold, toD, adopt, Rs.bind, Rs.thenS, opStore, expo, itmOf, wipeR, mAppend, mExtend, sAsg_, List.mapM_cons, List.mapM_nil, Option.bind_eq_bind, Option.bind_some, Option.pure_def, List.append_assoc, sz0, sy0, sz1, sy1, sz2, sy2, sz3, sy3, sz4, sy4, sz5, sy5, sz6, sy6, sz7, sy7, sz8, sy8, sz9, sy9, sz10, sy10, sz11, sy11, sz12, sy12, sz13, sy13, sz14, sy14, sz15, sy15, sz16, sy16, sz17, sy17, sz18, sy18, sz19, sy19, sz20, sy20, sz21, sy21, sz22, sy22, sz23, sy23, sz24, sy24, sz25, sy25, sz26, sy26, sz27, sy27, sz28, sy28, sz29, sy29, sz30, sy30, sz31, sy31, sz32, sy32, sz33, sy33, sz34, sy34, sz35, sy35, sz36, sy36, sz37, sy37, sz38, sy38, sz39, sy39, sz40, sy40, sPar3_, iZp_, cIsE_, zipOf, isL, opRepT, opIsB, fMax2, fMin2, mCountB, mIndexB, bools0, bools1, List.getElem?_cons_zero, List.getElem?_cons_succ, List.map_cons, List.map_nil, List.length_cons, List.length_nil, List.cons_append, List.nil_append, List.replicate_succ, List.replicate_zero, List.set_cons_zero, List.set_cons_succ, Nat.zero_add, Nat.reduceAdd, Nat.reduceSub, ↓reduceIte, reduceCtorEq, String.reduceBEq, kb_NoneType_int, kb_NoneType_bool, kb_NoneType_str, kb_NoneType_tuple, kb_NoneType_list, kb_NoneType_dict, kb_bool_int, kb_bool_bool, kb_bool_str, kb_bool_tuple, kb_bool_list, kb_bool_dict, kb_int_int, kb_int_bool, kb_int_str, kb_int_tuple, kb_int_list, kb_int_dict, kb_str_int, kb_str_bool, kb_str_str, kb_str_tuple, kb_str_list, kb_str_dict, kb_list_int, kb_list_bool, kb_list_str, kb_list_tuple, kb_list_list, kb_list_dict, kb_tuple_int, kb_tuple_bool, kb_tuple_str, kb_tuple_tuple, kb_tuple_list, kb_tuple_dict, kb_dict_int, kb_dict_bool, kb_dict_str, kb_dict_tuple, kb_dict_list, kb_dict_dict, String.reduceEq, Int.reduceLT, Int.reduceLE, Int.reduceNeg, Int.reducePow, Nat.reducePow, Int.reduceToNat, Nat.reduceLT, Nat.reduceLeDiff, decide_true, decide_false, and_self, and_true, true_and, or_true, true_or, or_false, false_or, Bool.not_true, Bool.not_false, Bool.true_eq_false, Bool.false_eq_true, Option.map_some, Option.map_none, h, List.take_length, isIntD, withinD, h1]
    have := of_decide_eq_true h1
    simp [this]
  · have h1' := Bool.eq_false_iff.mpr h1
    simp only [F_is_within, C_is_within, cV_, cK_, cBin_, cCall_, cCons_, cNil_, cH_, cD_, cA_, cT_, cIf_, cAndT_, cOrT_, cNotT_, cAndV_, cOrV_, cNotV_, cChain_, cSl_, cPart_, cNoPart_, cMt_, cIsi_, cNeg_, cFn_, sNil_, sCons_, sIf_, sSet_, sPar_, sExpr_, sRet_, sRetN_, sRaise_, sBrk_, sCnt_, sStore_, fnOf_, iAny_, iR1_, iR2_, iEn_, gN_, gT_, gsN_, gsC_, stepS_, cYes_, lcF_, bT, iP, isTy, tyName, opTup, opLst, opAdd, opII, cDivB, opMul, opOrd, opEq, kD_nn, kD_ii, kD_bb, kD_ss, kD_ni, kD_nb, kD_ns, kD_in, kD_bn, kD_sn, kD_is, kD_si, kD_bs, kD_sb, kD_tuple1, kD_tuple2, kD_list1, kD_list2, kD_ib, kD_bi, opIsN, opIx, opSl, one, fLen, fInt, fAbs, fTup, fList, see, hold, toD, adopt, Rs.bind, Rs.thenS, opStore, expo, itmOf, wipeR, mAppend, mExtend, sAsg_, List.mapM_cons, List.mapM_nil, Option.bind_eq_bind, Option.bind_some, Option.pure_def, List.append_assoc, sz0, sy0, sz1, sy1, sz2, sy2, sz3, sy3, sz4, sy4, sz5, sy5, sz6, sy6, sz7, sy7, sz8, sy8, sz9, sy9, sz10, sy10, sz11, sy11, sz12, sy12, sz13, sy13, sz14, sy14, sz15, sy15, sz16, sy16, sz17, sy17, sz18, sy18, sz19, sy19, sz20, sy20, sz21, sy21, sz22, sy22, sz23, sy23, sz24, sy24, sz25, sy25, sz26, sy26, sz27, sy27, sz28, sy28, sz29, sy29, sz30, sy30, sz31, sy31, sz32, sy32, sz33, sy33, sz34, sy34, sz35, sy35, sz36, sy36, sz37, sy37, sz38, sy38, sz39, sy39, sz40, sy40, sPar3_, iZp_, cIsE_, zipOf, isL, opRepT, opIsB, fMax2, fMin2, mCountB, mIndexB, bools0, bools1, List.getElem?_cons_zero, List.getElem?_cons_succ, List.map_cons, List.map_nil, List.length_cons, List.length_nil, List.cons_append, List.nil_append, List.replicate_succ, List.replicate_zero, List.set_cons_zero, List.set_cons_succ, Nat.zero_add, Nat.reduceAdd, Nat.reduceSub, ↓reduceIte, reduceCtorEq, String.reduceBEq, kb_NoneType_int, kb_NoneType_bool, kb_NoneType_str, kb_NoneType_tuple, kb_NoneType_list, kb_NoneType_dict, kb_bool_int, kb_bool_bool, kb_bool_str, kb_bool_tuple, kb_bool_list, kb_bool_dict, kb_int_int, kb_int_bool, kb_int_str, kb_int_tuple, kb_int_list, kb_int_dict, kb_str_int, kb_str_bool, kb_str_str, kb_str_tuple, kb_str_list, kb_str_dict, kb_list_int, kb_list_bool, kb_list_str, kb_list_tuple, kb_list_list, kb_list_dict, kb_tuple_int, kb_tuple_bool, kb_tuple_str, kb_tuple_tuple, kb_tuple_list, kb_tuple_dict, kb_dict_int, kb_dict_bool, kb_dict_str, kb_dict_tuple, kb_dict_list, kb_dict_dict, String.reduceEq, Int.reduceLT, Int.reduceLE, Int.reduceNeg, Int.reducePow, Nat.reducePow, Int.reduceToNat, Nat.reduceLT, Nat.reduceLeDiff, decide_true, decide_false, and_self, and_true, true_and, or_true, true_or, or_false, false_or, Bool.not_true, Bool.not_false, Bool.true_eq_false, Bool.false_eq_true, Option.map_some, Option.map_none, h, List.take_length, isIntD, withinD, h1']
    have : ¬ lo ≤ i := of_decide_eq_false h1'
    simp [this]
theorem sized_ok (x : D) (lo hi : Int) (hx : noDict x = true) (μ : Mem) : F_is_sized [.d x, .d (.int lo), .d (.int hi)] μ = .ok (.d (.bool (sizedD lo hi x))) μ := by
  cases x <;> first | (simp only [F_is_sized, C_is_sized, cV_, cK_, cBin_, cCall_, cCons_, cNil_, cH_, cD_, cA_, cT_, cIf_, cAndT_, cOrT_, cNotT_, cAndV_, cOrV_, cNotV_, cChain_, cSl_, cPart_, cNoPart_, cMt_, cIsi_, cNeg_, cFn_, sNil_, sCons_, sIf_, sSet_, sPar_, sExpr_, sRet_, sRetN_, sRaise_, sBrk_, sCnt_, sStore_, fnOf_, iAny_, iR1_, iR2_, iEn_, gN_, gT_, gsN_, gsC_, stepS_, cYes_, lcF_, bT, iP, isTy, tyName, opTup, opLst, opAdd, opII, cDivB, opMul, opOrd, opEq, kD_nn, kD_ii, kD_bb, kD_ss, kD_ni, kD_nb, kD_ns, kD_in, kD_bn, kD_sn, kD_is, kD_si, kD_bs, kD_sb, kD_tuple1, kD_tuple2, kD_list1, kD_list2, kD_ib, kD_bi, opIsN, opIx, opSl, one, fLen, fInt, fAbs, fTup, fList, see, hold, toD, adopt, Rs.bind, Rs.thenS, opStore, expo, itmOf, wipeR, mAppend, mExtend, sAsg_, List.mapM_cons, List.mapM_nil, Option.bind_eq_bind, Option.bind_some, Option.pure_def, List.append_assoc, sz0, sy0, sz1, sy1, sz2, sy2, sz3, sy3, sz4, sy4, sz5, sy5, sz6, sy6, sz7, sy7, sz8, sy8, sz9, sy9, sz10, sy10, sz11, sy11, sz12, sy12, sz13, sy13, sz14, sy14, sz15, sy15, sz16, sy16, sz17, sy17, sz18, sy18, sz19, sy19, sz20, sy20, sz21, sy21, sz22, sy22, sz23, sy23, sz24, sy24, sz25, sy25, sz26, sy26, sz27, sy27, sz28, sy28, sz29, sy29, sz30, sy30, sz31, sy31, sz32, sy32, sz33, sy33, sz34, sy34, sz35, sy35, sz36, sy36, sz37, sy37, sz38, sy38, sz39, sy39, sz40, sy40, sPar3_, iZp_, cIsE_, zipOf, isL, opRepT, opIsB, fMax2, fMin2, mCountB, mIndexB, bools0, bools1, List.getElem?_cons_zero, List.getElem?_cons_succ, List.map_cons, List.map_nil, List.length_cons, List.length_nil, List.cons_append, List.nil_append, List.replicate_succ, List.replicate_zero, List.set_cons_zero, List.set_cons_succ, Nat.zero_add, Nat.reduceAdd, Nat.reduceSub, ↓reduceIte, reduceCtorEq, String.reduceBEq, kb_NoneType_int, kb_NoneType_bool, kb_NoneType_str, kb_NoneType_tuple, kb_NoneType_list, kb_NoneType_dict, kb_bool_int, kb_bool_bool, kb_bool_str, kb_bool_tuple, kb_bool_list, kb_bool_dict, kb_int_int, kb_int_bool, kb_int_str, kb_int_tuple, kb_int_list, kb_int_dict, kb_str_int, kb_str_bool, kb_str_str, kb_str_tuple, kb_str_list, kb_str_dict, kb_list_int, kb_list_bool, kb_list_str, kb_list_tuple, kb_list_list, kb_list_dict, kb_tuple_int, kb_tuple_bool, kb_tuple_str, kb_tuple_tuple, kb_tuple_list, kb_tuple_dict, kb_dict_int, kb_dict_bool, kb_dict_str, kb_dict_tuple, kb_dict_list, kb_dict_dict, String.reduceEq, Int.reduceLT, Int.reduceLE, Int.reduceNeg, Int.reducePow, Nat.reducePow, Int.reduceToNat, Nat.reduceLT, Nat.reduceLeDiff, decide_true, decide_false, and_self, and_true, true_and, or_true, true_or, or_false, false_or, Bool.not_true, Bool.not_false, Bool.true_eq_false, Bool.false_eq_true, Option.map_some, Option.map_none, List.take_length, sizedD]; done) | (simp [noDict] at hx; done) | skip
  rename_i xs
  by_cases h1 : decide (lo ≤ ((xs.length : Nat) : Int)) = true
  · simp only [F_is_sized, C_is_sized, cV_, cK_, cBin_, cCall_, cCons_, cNil_, cH_, cD_, cA_, cT_, cIf_, cAndT_, cOrT_, cNotT_, cAndV_, cOrV_, cNotV_, cChain_, cSl_, cPart_, cNoPart_, cMt_, cIsi_, cNeg_, cFn_, sNil_, sCons_, sIf_, sSet_, sPar_, sExpr_, sRet_, sRetN_, sRaise_, sBrk_, sCnt_, sStore_, fnOf_, iAny_, iR1_, iR2_, iEn_, gN_, gT_, gsN_, gsC_, stepS_, cYes_, lcF_, bT, iP, isTy, tyName, opTup, opLst, opAdd, opII, cDivB, opMul, opOrd, opEq, kD_nn, kD_ii, kD_bb, kD_ss, kD_ni, kD_nb, kD_ns, kD_in, kD_bn, kD_sn, kD_is, kD_si, kD_bs, kD_sb, kD_tuple1, kD_tuple2, kD_list1, kD_list2, kD_ib, kD_bi, opIsN, opIx, opSl, one, fLen, fInt, fAbs, fTup, fList, see, hold, toD, adopt, Rs.bind, Rs.thenS, opStore, expo, itmOf, wipeR, mAppend, mExtend, sAsg_, List.mapM_cons, List.mapM_nil, Option.bind_eq_bind, Option.bind_some, Option.pure_def, List.append_assoc, sz0, sy0, sz1, sy1, sz2, sy2, sz3, sy3, sz4, sy4, sz5, sy5, sz6, sy6, sz7, sy7, sz8, sy8, sz9, sy9, sz10, sy10, sz11, sy11, sz12, sy12, sz13, sy13, sz14, sy14, sz15, sy15, sz16, sy16, sz17, sy17, sz18, sy18, sz19, sy19, sz20, sy20, sz21, sy21, sz22, sy22, sz23, sy23, sz24, sy24, sz25, sy25, sz26, sy26, sz27, sy27, sz28, sy28, sz29, sy29, sz30, sy30, sz31, sy31, sz32, sy32, sz33, sy33, sz34, sy34, sz35, sy35, sz36, sy36, sz37, sy37, sz38, sy38, sz39, sy39, sz40, sy40, sPar3_, iZp_, cIsE_, zipOf, isL, opRepT, opIsB, fMax2, fMin2, mCountB, mIndexB, bools0, bools1, List.getElem?_cons_zero, List.getElem?_cons_succ, List.map_cons, List.map_nil, List.length_cons, List.length_nil, List.cons_append, List.nil_append, List.replicate_succ, List.replicate_zero, List.set_cons_zero, List.set_cons_succ, Nat.zero_add, Nat.reduceAdd, Nat.reduceSub, ↓reduceIte, reduceCtorEq, String.reduceBEq, kb_NoneType_int, kb_NoneType_bool, kb_NoneType_str, kb_NoneType_tuple, kb_NoneType_list, kb_NoneType_dict, kb_bool_int, kb_bool_bool, kb_bool_str, kb_bool_tuple, kb_bool_list, kb_bool_dict, kb_int_int, kb_int_bool, kb_int_str, kb_int_tuple, kb_int_list, kb_int_dict, kb_str_int, kb_str_bool, kb_str_str, kb_str_tuple, kb_str_list, kb_str_dict, kb_list_int, kb_list_bool, kb_list_str, kb_list_tuple, kb_list_list, kb_list_dict, kb_tuple_int, kb_tuple_bool, kb_tuple_str, kb_tuple_tuple, kb_tuple_list, kb_tuple_dict, kb_dict_int, kb_dict_bool, kb_dict_str, kb_dict_tuple, kb_dict_list, kb_dict_dict, String.reduceEq, Int.reduceLT, Int.reduceLE, Int.reduceNeg, Int.reducePow, Nat.reducePow, Int.reduceToNat, Nat.reduceLT, Nat.reduceLeDiff, decide_true, decide_false, and_self, and_true, true_and, or_true, true_or, or_false, false_or, Bool.not_true, Bool.not_false, Bool.true_eq_false, Bool.false_eq_true, Option.map_some, Option.map_none, List.take_length, sizedD, h1]
    have := of_decide_eq_true h1
    simp [this]
  · have h1' := Bool.eq_false_iff.mpr h1
    simp only [F_is_sized, C_is_sized, cV_, cK_, cBin_, cCall_, cCons_, cNil_, cH_, cD_, cA_, cT_, cIf_, cAndT_, cOrT_, cNotT_, cAndV_, cOrV_, cNotV_, cChain_, cSl_, cPart_, cNoPart_, cMt_, cIsi_, cNeg_, cFn_, sNil_, sCons_, sIf_, sSet_, sPar_, sExpr_, sRet_, sRetN_, sRaise_, sBrk_, sCnt_, sStore_, fnOf_, iAny_, iR1_, iR2_, iEn_, gN_, gT_, gsN_, gsC_, stepS_, cYes_, lcF_, bT, iP, isTy, tyName, opTup, opLst, opAdd, opII, cDivB, opMul, opOrd, opEq, kD_nn, kD_ii, kD_bb, kD_ss, kD_ni, kD_nb, kD_ns, kD_in, kD_bn, kD_sn, kD_is, kD_si, kD_bs, kD_sb, kD_tuple1, kD_tuple2, kD_list1, kD_list2, kD_ib, kD_bi, opIsN, opIx, opSl, one, fLen, fInt, fAbs, fTup, fList, see, hold, toD, adopt, Rs.bind, Rs.thenS, opStore, expo, itmOf, wipeR, mAppend, mExtend, sAsg_, List.mapM_cons, List.mapM_nil, Option.bind_eq_bind, Option.bind_some, Option.pure_def, List.append_assoc, sz0, sy0, sz1, sy1, sz2, sy2, sz3, sy3, sz4, sy4, sz5, sy5, sz6, sy6, sz7, sy7, sz8, sy8, sz9, sy9, sz10, sy10, sz11, sy11, sz12, sy12, sz13, sy13, sz14, sy14, sz15, sy15, sz16, sy16, sz17, sy17, sz18, sy18, sz19, sy19, sz20, sy20, sz21, sy21, sz22, sy22, sz23, sy23, sz24, sy24, sz25, sy25, sz26, sy26, sz27, sy27, sz28, sy28, sz29, sy29, sz30, sy30, sz31, sy31, sz32, sy32, sz33, sy33, sz34, sy34, sz35, sy35, sz36, sy36, sz37, sy37, sz38, sy38, sz39, sy39, sz40, sy40, sPar3_, iZp_, cIsE_, zipOf, isL, opRepT, opIsB, fMax2, fMin2, mCountB, mIndexB, bools0, bools1, List.getElem?_cons_zero, List.getElem?_cons_succ, List.map_cons, List.map_nil, List.length_cons, List.length_nil, List.cons_append, List.nil_append, List.replicate_succ, List.replicate_zero, List.set_cons_zero, List.set_cons_succ, Nat.zero_add, Nat.reduceAdd, Nat.reduceSub, ↓reduceIte, reduceCtorEq, String.reduceBEq, kb_NoneType_int, kb_NoneType_bool, kb_NoneType_str, kb_NoneType_tuple, kb_NoneType_list, kb_NoneType_dict, kb_bool_int, kb_bool_bool, kb_bool_str, kb_bool_tuple, kb_bool_list, kb_bool_dict, kb_int_int, kb_int_bool, kb_int_str, kb_int_tuple, kb_int_list, kb_int_dict, kb_str_int, kb_str_bool, kb_str_str, kb_str_tuple, kb_str_list, kb_str_dict, kb_list_int, kb_list_bool, kb_list_str, kb_list_tuple, kb_list_list, kb_list_dict, kb_tuple_int, kb_tuple_bool, kb_tuple_str, kb_tuple_tuple, kb_tuple_list, kb_tuple_dict, kb_dict_int, kb_dict_bool, kb_dict_str, kb_dict_tuple, kb_dict_list, kb_dict_dict, String.reduceEq, Int.reduceLT, Int.reduceLE, Int.reduceNeg, Int.reducePow, Nat.reducePow, Int.reduceToNat, Nat.reduceLT, Nat.reduceLeDiff, decide_true, decide_false, and_self, and_true, true_and, or_true, true_or, or_false, false_or, Bool.not_true, Bool.not_false, Bool.true_eq_false, Bool.false_eq_true, Option.map_some, Option.map_none, List.take_length, sizedD, h1']
    have : ¬ lo ≤ ((xs.length : Nat) : Int) := of_decide_eq_false h1'
    simp [this]

theorem within_int (i lo hi : Int) (μ : Mem) : F_is_within [.d (.int i), .d (.int lo), .d (.int hi)] μ = .ok (.d (.bool (decide (lo ≤ i ∧ i ≤ hi)))) μ := within_ok (.int i) lo hi rfl μ
theorem sized_tup (xs : List D) (lo hi : Int) (μ : Mem) : F_is_sized [.d (.tuple xs), .d (.int lo), .d (.int hi)] μ = .ok (.d (.bool (decide (lo ≤ ((xs.length : Nat) : Int) ∧ ((xs.length : Nat) : Int) ≤ hi)))) μ := sized_ok (.tuple xs) lo hi rfl μ
/-! ### kits -/
def presL (ls : List Int) : Bool := decide (2 ≤ ls.length ∧ ls.length ≤ 41) && ls.all fun x => decide (0 ≤ x ∧ x ≤ 1000)
theorem pres_ok (ls : List Int) (hl : ls.length ≤ 1000) (μ : Mem) : F_are_pressures [.d (.tuple (ls.map .int))] μ = .ok (.d (.bool (presL ls))) μ := by
  have hL : ∀ μ, cLc (iAny (cV 0)) [1] (gN 1) cYes (cFn 3 F_is_within (cCons (cV 1) (cCons (cK (.int 0)) (cCons (cK (.int 1000)) cNil)))) [some (.d (.tuple (ls.map .int))), none] μ = .ok (.fl ((ls.map fun x => decide (0 ≤ x ∧ x ≤ 1000)).map .bool)) μ := fun μ => by
    have := cLc_map1 (ci := iAny (cV 0)) (own := [1]) (g := gN 1) (tt := cYes) (te := cFn 3 F_is_within (cCons (cV 1) (cCons (cK (.int 0)) (cCons (cK (.int 1000)) cNil)))) (ρ := [some (.d (.tuple (ls.map .int))), none]) (μ := μ) (μ1 := μ) (ds := ls.map .int) (fun d => .bool (withinD 0 1000 d)) (itm_tuple _) (by simp only [cV_, cK_, cBin_, cCall_, cCons_, cNil_, cH_, cD_, cA_, cT_, cIf_, cAndT_, cOrT_, cNotT_, cAndV_, cOrV_, cNotV_, cChain_, cSl_, cPart_, cNoPart_, cMt_, cIsi_, cNeg_, cFn_, sNil_, sCons_, sIf_, sSet_, sPar_, sExpr_, sRet_, sRetN_, sRaise_, sBrk_, sCnt_, sStore_, fnOf_, iAny_, iR1_, iR2_, iEn_, gN_, gT_, gsN_, gsC_, stepS_, cYes_, lcF_, bT, iP, isTy, tyName, opTup, opLst, opAdd, opII, cDivB, opMul, opOrd, opEq, kD_nn, kD_ii, kD_bb, kD_ss, kD_ni, kD_nb, kD_ns, kD_in, kD_bn, kD_sn, kD_is, kD_si, kD_bs, kD_sb, kD_tuple1, kD_tuple2, kD_list1, kD_list2, kD_ib, kD_bi, opIsN, opIx, opSl, one, fLen, fInt, fAbs, fTup, fList, see, hold, toD, adopt, Rs.bind, Rs.thenS, opStore, expo, itmOf, wipeR, mAppend, mExtend, sAsg_, List.mapM_cons, List.mapM_nil, Option.bind_eq_bind, Option.bind_some, Option.pure_def, List.append_assoc, sz0, sy0, sz1, sy1, sz2, sy2, sz3, sy3, sz4, sy4, sz5, sy5, sz6, sy6, sz7, sy7, sz8, sy8, sz9, sy9, sz10, sy10, sz11, sy11, sz12, sy12, sz13, sy13, sz14, sy14, sz15, sy15, sz16, sy16, sz17, sy17, sz18, sy18, sz19, sy19, sz20, sy20, sz21, sy21, sz22, sy22, sz23, sy23, sz24, sy24, sz25, sy25, sz26, sy26, sz27, sy27, sz28, sy28, sz29, sy29, sz30, sy30, sz31, sy31, sz32, sy32, sz33, sy33, sz34, sy34, sz35, sy35, sz36, sy36, sz37, sy37, sz38, sy38, sz39, sy39, sz40, sy40, sPar3_, iZp_, cIsE_, zipOf, isL, opRepT, opIsB, fMax2, fMin2, mCountB, mIndexB, bools0, bools1, List.getElem?_cons_zero, List.getElem?_cons_succ, List.map_cons, List.map_nil, List.length_cons, List.length_nil, List.cons_append, List.nil_append, List.replicate_succ, List.replicate_zero, List.set_cons_zero, List.set_cons_succ, Nat.zero_add, Nat.reduceAdd, Nat.reduceSub, ↓reduceIte, reduceCtorEq, String.reduceBEq, kb_NoneType_int, kb_NoneType_bool, kb_NoneType_str, kb_NoneType_tuple, kb_NoneType_list, kb_NoneType_dict, kb_bool_int, kb_bool_bool, kb_bool_str, kb_bool_tuple, kb_bool_list, kb_bool_dict, kb_int_int, kb_int_bool, kb_int_str, kb_int_tuple, kb_int_list, kb_int_dict, kb_str_int, kb_str_bool, kb_str_str, kb_str_tuple, kb_str_list, kb_str_dict, kb_list_int, kb_list_bool, kb_list_str, kb_list_tuple, kb_list_list, kb_list_dict, kb_tuple_int, kb_tuple_bool, kb_tuple_str, kb_tuple_tuple, kb_tuple_list, kb_tuple_dict, kb_dict_int, kb_dict_bool, kb_dict_str, kb_dict_tuple, kb_dict_list, kb_dict_dict, String.reduceEq, Int.reduceLT, Int.reduceLE, Int.reduceNeg, Int.reducePow, Nat.reducePow, Int.reduceToNat, Nat.reduceLT, Nat.reduceLeDiff, decide_true, decide_false, and_self, and_true, true_and, or_true, true_or, or_false, false_or, Bool.not_true, Bool.not_false, Bool.true_eq_false, Bool.false_eq_true, Option.map_some, Option.map_none]) (nat_sizeLine (by simp; omega)) (fun d hd μ' _ => by
      obtain ⟨i, _, rfl⟩ := List.mem_map.mp hd
      simp only [cV_, cK_, cBin_, cCall_, cCons_, cNil_, cH_, cD_, cA_, cT_, cIf_, cAndT_, cOrT_, cNotT_, cAndV_, cOrV_, cNotV_, cChain_, cSl_, cPart_, cNoPart_, cMt_, cIsi_, cNeg_, cFn_, sNil_, sCons_, sIf_, sSet_, sPar_, sExpr_, sRet_, sRetN_, sRaise_, sBrk_, sCnt_, sStore_, fnOf_, iAny_, iR1_, iR2_, iEn_, gN_, gT_, gsN_, gsC_, stepS_, cYes_, lcF_, bT, iP, isTy, tyName, opTup, opLst, opAdd, opII, cDivB, opMul, opOrd, opEq, kD_nn, kD_ii, kD_bb, kD_ss, kD_ni, kD_nb, kD_ns, kD_in, kD_bn, kD_sn, kD_is, kD_si, kD_bs, kD_sb, kD_tuple1, kD_tuple2, kD_list1, kD_list2, kD_ib, kD_bi, opIsN, opIx, opSl, one, fLen, fInt, fAbs, fTup, fList, see, hold, toD, adopt, Rs.bind, Rs.thenS, opStore, expo, itmOf, wipeR, mAppend, mExtend, sAsg_, List.mapM_cons, List.mapM_nil, Option.bind_eq_bind, Option.bind_some, Option.pure_def, List.append_assoc, sz0, sy0, sz1, sy1, sz2, sy2, sz3, sy3, sz4, sy4, sz5, sy5, sz6, sy6, sz7, sy7, sz8, sy8, sz9, sy9, sz10, sy10, sz11, sy11, sz12, sy12, sz13, sy13, sz14, sy14, sz15, sy15, sz16, sy16, sz17, sy17, sz18, sy18, sz19, sy19, sz20, sy20, sz21, sy21, sz22, sy22, sz23, sy23, sz24, sy24, sz25, sy25, sz26, sy26, sz27, sy27, sz28, sy28, sz29, sy29, sz30, sy30, sz31, sy31, sz32, sy32, sz33, sy33, sz34, sy34, sz35, sy35, sz36, sy36, sz37, sy37, sz38, sy38, sz39, sy39, sz40, sy40, sPar3_, iZp_, cIsE_, zipOf, isL, opRepT, opIsB, fMax2, fMin2, mCountB, mIndexB, bools0, bools1, List.getElem?_cons_zero, List.getElem?_cons_succ, List.map_cons, List.map_nil, List.length_cons, List.length_nil, List.cons_append, List.nil_append, List.replicate_succ, List.replicate_zero, List.set_cons_zero, List.set_cons_succ, Nat.zero_add, Nat.reduceAdd, Nat.reduceSub, ↓reduceIte, reduceCtorEq, String.reduceBEq, kb_NoneType_int, kb_NoneType_bool, kb_NoneType_str, kb_NoneType_tuple, kb_NoneType_list, kb_NoneType_dict, kb_bool_int, kb_bool_bool, kb_bool_str, kb_bool_tuple, kb_bool_list, kb_bool_dict, kb_int_int, kb_int_bool, kb_int_str, kb_int_tuple, kb_int_list, kb_int_dict, kb_str_int, kb_str_bool, kb_str_str, kb_str_tuple, kb_str_list, kb_str_dict, kb_list_int, kb_list_bool, kb_list_str, kb_list_tuple, kb_list_list, kb_list_dict, kb_tuple_int, kb_tuple_bool, kb_tuple_str, kb_tuple_tuple, kb_tuple_list, kb_tuple_dict, kb_dict_int, kb_dict_bool, kb_dict_str, kb_dict_tuple, kb_dict_list, kb_dict_dict, String.reduceEq, Int.reduceLT, Int.reduceLE, Int.reduceNeg, Int.reducePow, Nat.reducePow, Int.reduceToNat, Nat.reduceLT, Nat.reduceLeDiff, decide_true, decide_false, and_self, and_true, true_and, or_true, true_or, or_false, false_or, Bool.not_true, Bool.not_false, Bool.true_eq_false, Bool.false_eq_true, Option.map_some, Option.map_none, within_int, withinD])
    rw [this, List.map_map, List.map_map]
    rfl
  have e : sizedD 2 41 (.tuple (ls.map .int)) = decide (2 ≤ ls.length ∧ ls.length ≤ 41) := by
    show decide (2 ≤ (((ls.map PyData.int).length : Nat) : Int) ∧ (((ls.map PyData.int).length : Nat) : Int) ≤ 41) = _
    rw [List.length_map]
    congr 1
    apply propext
    omega
  have h := fun μ => (sized_ok (.tuple (ls.map .int)) 2 41 rfl μ).trans (by rw [e])
  by_cases h1 : decide (2 ≤ ls.length ∧ ls.length ≤ 41) = true
  · simp only [F_are_pressures, C_are_pressures, cV_, cK_, cBin_, cCall_, cCons_, cNil_, cH_, cD_, cA_, cT_, cIf_, cAndT_, cOrT_, cNotT_, cAndV_, cOrV_, cNotV_, cChain_, cSl_, cPart_, cNoPart_, cMt_, cIsi_, cNeg_, cFn_, sNil_, sCons_, sIf_, sSet_, sPar_, sExpr_, sRet_, sRetN_, sRaise_, sBrk_, sCnt_, sStore_, fnOf_, iAny_, iR1_, iR2_, iEn_, gN_, gT_, gsN_, gsC_, stepS_, cYes_, lcF_, bT, iP, isTy, tyName, opTup, opLst, opAdd, opII, cDivB, opMul, opOrd, opEq, kD_nn, kD_ii, kD_bb, kD_ss, kD_ni, kD_nb, kD_ns, kD_in, kD_bn, kD_sn, kD_is, kD_si, kD_bs, kD_sb, kD_tuple1, kD_tuple2, kD_list1, kD_list2, kD_ib, kD_bi, opIsN, opIx, opSl, one, fLen, fInt, fAbs, fTup, fList, see, hold, toD, adopt, Rs.bind, Rs.thenS, opStore, expo, itmOf, wipeR, mAppend, mExtend, sAsg_, List.mapM_cons, List.mapM_nil, Option.bind_eq_bind, Option.bind_some, Option.pure_def, List.append_assoc, sz0, sy0, sz1, sy1, sz2, sy2, sz3, sy3, sz4, sy4, sz5, sy5, sz6, sy6, sz7, sy7, sz8, sy8, sz9, sy9, sz10, sy10, sz11, sy11, sz12, sy12, sz13, sy13, sz14, sy14, sz15, sy15, sz16, sy16, sz17, sy17, sz18, sy18, sz19, sy19, sz20, sy20, sz21, sy21, sz22, sy22, sz23, sy23, sz24, sy24, sz25, sy25, sz26, sy26, sz27, sy27, sz28, sy28, sz29, sy29, sz30, sy30, sz31, sy31, sz32, sy32, sz33, sy33, sz34, sy34, sz35, sy35, sz36, sy36, sz37, sy37, sz38, sy38, sz39, sy39, sz40, sy40, sPar3_, iZp_, cIsE_, zipOf, isL, opRepT, opIsB, fMax2, fMin2, mCountB, mIndexB, bools0, bools1, List.getElem?_cons_zero, List.getElem?_cons_succ, List.map_cons, List.map_nil, List.length_cons, List.length_nil, List.cons_append, List.nil_append, List.replicate_succ, List.replicate_zero, List.set_cons_zero, List.set_cons_succ, Nat.zero_add, Nat.reduceAdd, Nat.reduceSub, ↓reduceIte, reduceCtorEq, String.reduceBEq, kb_NoneType_int, kb_NoneType_bool, kb_NoneType_str, kb_NoneType_tuple, kb_NoneType_list, kb_NoneType_dict, kb_bool_int, kb_bool_bool, kb_bool_str, kb_bool_tuple, kb_bool_list, kb_bool_dict, kb_int_int, kb_int_bool, kb_int_str, kb_int_tuple, kb_int_list, kb_int_dict, kb_str_int, kb_str_bool, kb_str_str, kb_str_tuple, kb_str_list, kb_str_dict, kb_list_int, kb_list_bool, kb_list_str, kb_list_tuple, kb_list_list, kb_list_dict, kb_tuple_int, kb_tuple_bool, kb_tuple_str, kb_tuple_tuple, kb_tuple_list, kb_tuple_dict, kb_dict_int, kb_dict_bool, kb_dict_str, kb_dict_tuple, kb_dict_list, kb_dict_dict, String.reduceEq, Int.reduceLT, Int.reduceLE, Int.reduceNeg, Int.reducePow, Nat.reducePow, Int.reduceToNat, Nat.reduceLT, Nat.reduceLeDiff, decide_true, decide_false, and_self, and_true, true_and, or_true, true_or, or_false, false_or, Bool.not_true, Bool.not_false, Bool.true_eq_false, Bool.false_eq_true, Option.map_some, Option.map_none, h, h1, hL, fBools, boolsOf_map, List.length_map, List.take_length, presL, List.all_map]
    simp
  · have h1' := Bool.eq_false_iff.mpr h1
    simp only [F_are_pressures, C_are_pressures, cV_, cK_, cBin_, cCall_, cCons_, cNil_, cH_, cD_, cA_, cT_, cIf_, cAndT_, cOrT_, cNotT_, cAndV_, cOrV_, cNotV_, cChain_, cSl_, cPart_, cNoPart_, cMt_, cIsi_, cNeg_, cFn_, sNil_, sCons_, sIf_, sSet_, sPar_, sExpr_, sRet_, sRetN_, sRaise_, sBrk_, sCnt_, sStore_, fnOf_, iAny_, iR1_, iR2_, iEn_, gN_, gT_, gsN_, gsC_, stepS_, cYes_, lcF_, bT, iP, isTy, tyName, opTup, opLst, opAdd, opII, cDivB, opMul, opOrd, opEq, kD_nn, kD_ii, kD_bb, kD_ss, kD_ni, kD_nb, kD_ns, kD_in, kD_bn, kD_sn, kD_is, kD_si, kD_bs, kD_sb, kD_tuple1, kD_tuple2, kD_list1, kD_list2, kD_ib, kD_bi, opIsN, opIx, opSl, one, fLen, fInt, fAbs, fTup, fList, see, hold, toD, adopt, Rs.bind, Rs.thenS, opStore, expo, itmOf, wipeR, mAppend, mExtend, sAsg_, List.mapM_cons, List.mapM_nil, Option.bind_eq_bind, Option.bind_some, Option.pure_def, List.append_assoc, sz0, sy0, sz1, sy1, sz2, sy2, sz3, sy3, sz4, sy4, sz5, sy5, sz6, sy6, sz7, sy7, sz8, sy8, sz9, sy9, sz10, sy10, sz11, sy11, sz12, sy12, sz13, sy13, sz14, sy14, sz15, sy15, sz16, sy16, sz17, sy17, sz18, sy18, sz19, sy19, sz20, sy20, sz21, sy21, sz22, sy22, sz23, sy23, sz24, sy24, sz25, sy25, sz26, sy26, sz27, sy27, sz28, sy28, sz29, sy29, sz30, sy30, sz31, sy31, sz32, sy32, sz33, sy33, sz34, sy34, sz35, sy35, sz36, sy36, sz37, sy37, sz38, sy38, sz39, sy39, sz40, sy40, sPar3_, iZp_, cIsE_, zipOf, isL, opRepT, opIsB, fMax2, fMin2, mCountB, mIndexB, bools0, bools1, List.getElem?_cons_zero, List.getElem?_cons_succ, List.map_cons, List.map_nil, List.length_cons, List.length_nil, List.cons_append, List.nil_append, List.replicate_succ, List.replicate_zero, List.set_cons_zero, List.set_cons_succ, Nat.zero_add, Nat.reduceAdd, Nat.reduceSub, ↓reduceIte, reduceCtorEq, String.reduceBEq, kb_NoneType_int, kb_NoneType_bool, kb_NoneType_str, kb_NoneType_tuple, kb_NoneType_list, kb_NoneType_dict, kb_bool_int, kb_bool_bool, kb_bool_str, kb_bool_tuple, kb_bool_list, kb_bool_dict, kb_int_int, kb_int_bool, kb_int_str, kb_int_tuple, kb_int_list, kb_int_dict, kb_str_int, kb_str_bool, kb_str_str, kb_str_tuple, kb_str_list, kb_str_dict, kb_list_int, kb_list_bool, kb_list_str, kb_list_tuple, kb_list_list, kb_list_dict, kb_tuple_int, kb_tuple_bool, kb_tuple_str, kb_tuple_tuple, kb_tuple_list, kb_tuple_dict, kb_dict_int, kb_dict_bool, kb_dict_str, kb_dict_tuple, kb_dict_list, kb_dict_dict, String.reduceEq, Int.reduceLT, Int.reduceLE, Int.reduceNeg, Int.reducePow, Nat.reducePow, Int.reduceToNat, Nat.reduceLT, Nat.reduceLeDiff, decide_true, decide_false, and_self, and_true, true_and, or_true, true_or, or_false, false_or, Bool.not_true, Bool.not_false, Bool.true_eq_false, Bool.false_eq_true, Option.map_some, Option.map_none, h, h1', List.take_length, presL]
    simp
def kitD (ls gs : List Int) (i b : Int) : D := .tuple [.tuple (ls.map .int), .tuple (gs.map .int), .int i, .int b]
def upL (ls : List Int) : Bool := (ls.zip (ls.drop 1)).all fun p => decide (p.1 ≤ p.2)
def downL (ls : List Int) : Bool := (ls.zip (ls.drop 1)).all fun p => decide (p.2 ≤ p.1)
def kitB (ls gs : List Int) (i b : Int) : Bool := presL ls && (presL gs && ((ls.length == gs.length) && ((ls.headD 1 == 0) && (upL ls && (downL gs && (decide (0 ≤ i ∧ i ≤ 1000) && decide (1 ≤ b ∧ b ≤ 1000)))))))
theorem pairs_ok (ls : List Int) (hl : ls.length ≤ 1000) {o : R → R → Mem → Rs R} {f : Int → Int → Bool} (ho : ∀ a b μ, o (.d (.int a)) (.d (.int b)) μ = .ok (.d (.bool (f a b))) μ) {k : Nat} {ρ : Vr} (hρ : ρ = ρ) {ci : Vr → Mem → Rs Itm} {μ : Mem} (hci : ci ρ μ = .ok (.zip (.d (.tuple (ls.map .int))) (.d (.tuple ((ls.drop 1).map .int)))) μ) {te : EC} (hte : ∀ a b μ', lcF [5, 6] (gT (gsC (gN 5) (gsC (gN 6) gsN))) cYes te ρ (.tuple [.int a, .int b]) μ' = .ok (some (.bool (f a b))) μ') :
    cLc ci [5, 6] (gT (gsC (gN 5) (gsC (gN 6) gsN))) cYes te ρ μ = .ok (.fl (((ls.zip (ls.drop 1)).map fun p => f p.1 p.2).map .bool)) μ := by
  have := cLc_map1 (own := [5, 6]) (g := gT (gsC (gN 5) (gsC (gN 6) gsN))) (tt := cYes) (te := te) (fun d => match d with | .tuple [.int a, .int b] => .bool (f a b) | d => d) (itm_zipT _ _) hci (nat_sizeLine (by rw [zipD_len]; simp; omega)) (fun d hd μ' _ => by
    rw [zipD_ints] at hd
    obtain ⟨p, _, rfl⟩ := List.mem_map.mp hd
    exact hte p.1 p.2 μ')
  rw [this, zipD_ints, List.map_map, List.map_map]
  rfl
theorem is_kit_ok (ls gs : List Int) (i b : Int) (h1 : ls.length ≤ 1000) (h2 : gs.length ≤ 1000) (μ : Mem) : F_is_kit [.d (kitD ls gs i b)] μ = .ok (.d (.bool (kitB ls gs i b))) μ := by
  have e4 := fun μ => sized_tup [.tuple (ls.map .int), .tuple (gs.map .int), .int i, .int b] 4 4 μ
  have e4' : decide ((4 : Int) ≤ ((([PyData.tuple (ls.map .int), .tuple (gs.map .int), .int i, .int b] : List D).length : Nat) : Int) ∧ ((([PyData.tuple (ls.map .int), .tuple (gs.map .int), .int i, .int b] : List D).length : Nat) : Int) ≤ 4) = true := by simp
  rw [e4'] at e4
  have p1 := pres_ok ls h1
  have p2 := pres_ok gs h2
  have iw := fun μ => within_int i 0 1000 μ
  have bw := fun μ => within_int b 1 1000 μ
  unfold kitB
  by_cases c1 : presL ls = true
  · by_cases c2 : presL gs = true
    · by_cases c3 : (ls.length == gs.length) = true
      · obtain ⟨l, r, hlr⟩ : ∃ l r, ls = l :: r := by
          cases ls with
          | nil => simp [presL] at c1
          | cons l r => exact ⟨l, r, rfl⟩
        have hx0 : L2.atI (ls.map PyData.int) 0 = some (.int (ls.headD 1)) := by rw [hlr]; exact ix0 _ _
        have c3' : ((((ls.map PyData.int).length : Nat) : Int) == (((gs.map PyData.int).length : Nat) : Int)) = true := by
          rw [List.length_map, List.length_map]
          have : ls.length = gs.length := by simpa using c3
          rw [this]
          exact beq_self_eq_true _
        have hU := fun μ => pairs_ok ls h1 (o := opLe) (f := fun a b => decide (a ≤ b)) (fun a b μ => rfl) (k := 0) (ρ := [some (.d (kitD ls gs i b)), some (.d (.tuple (ls.map .int))), some (.d (.tuple (gs.map .int))), some (.d (.int i)), some (.d (.int b)), none, none]) rfl (ci := iZp (cCons (cV 1) (cCons (cH (cSl (cV 1) (cPart (cK (.int 1))) cNoPart)) cNil))) (μ := μ) (by
          simp only [cV_, cK_, cBin_, cCall_, cCons_, cNil_, cH_, cD_, cA_, cT_, cIf_, cAndT_, cOrT_, cNotT_, cAndV_, cOrV_, cNotV_, cChain_, cSl_, cPart_, cNoPart_, cMt_, cIsi_, cNeg_, cFn_, sNil_, sCons_, sIf_, sSet_, sPar_, sExpr_, sRet_, sRetN_, sRaise_, sBrk_, sCnt_, sStore_, fnOf_, iAny_, iR1_, iR2_, iEn_, gN_, gT_, gsN_, gsC_, stepS_, cYes_, lcF_, bT, iP, isTy, tyName, opTup, opLst, opAdd, opII, cDivB, opMul, opOrd, opEq, kD_nn, kD_ii, kD_bb, kD_ss, kD_ni, kD_nb, kD_ns, kD_in, kD_bn, kD_sn, kD_is, kD_si, kD_bs, kD_sb, kD_tuple1, kD_tuple2, kD_list1, kD_list2, kD_ib, kD_bi, opIsN, opIx, opSl, one, fLen, fInt, fAbs, fTup, fList, see, hold, toD, adopt, Rs.bind, Rs.thenS, opStore, expo, itmOf, wipeR, mAppend, mExtend, sAsg_, List.mapM_cons, List.mapM_nil, Option.bind_eq_bind, Option.bind_some, Option.pure_def, List.append_assoc, sz0, sy0, sz1, sy1, sz2, sy2, sz3, sy3, sz4, sy4, sz5, sy5, sz6, sy6, sz7, sy7, sz8, sy8, sz9, sy9, sz10, sy10, sz11, sy11, sz12, sy12, sz13, sy13, sz14, sy14, sz15, sy15, sz16, sy16, sz17, sy17, sz18, sy18, sz19, sy19, sz20, sy20, sz21, sy21, sz22, sy22, sz23, sy23, sz24, sy24, sz25, sy25, sz26, sy26, sz27, sy27, sz28, sy28, sz29, sy29, sz30, sy30, sz31, sy31, sz32, sy32, sz33, sy33, sz34, sy34, sz35, sy35, sz36, sy36, sz37, sy37, sz38, sy38, sz39, sy39, sz40, sy40, sPar3_, iZp_, cIsE_, zipOf, isL, opRepT, opIsB, fMax2, fMin2, mCountB, mIndexB, bools0, bools1, List.getElem?_cons_zero, List.getElem?_cons_succ, List.map_cons, List.map_nil, List.length_cons, List.length_nil, List.cons_append, List.nil_append, List.replicate_succ, List.replicate_zero, List.set_cons_zero, List.set_cons_succ, Nat.zero_add, Nat.reduceAdd, Nat.reduceSub, ↓reduceIte, reduceCtorEq, String.reduceBEq, kb_NoneType_int, kb_NoneType_bool, kb_NoneType_str, kb_NoneType_tuple, kb_NoneType_list, kb_NoneType_dict, kb_bool_int, kb_bool_bool, kb_bool_str, kb_bool_tuple, kb_bool_list, kb_bool_dict, kb_int_int, kb_int_bool, kb_int_str, kb_int_tuple, kb_int_list, kb_int_dict, kb_str_int, kb_str_bool, kb_str_str, kb_str_tuple, kb_str_list, kb_str_dict, kb_list_int, kb_list_bool, kb_list_str, kb_list_tuple, kb_list_list, kb_list_dict, kb_tuple_int, kb_tuple_bool, kb_tuple_str, kb_tuple_tuple, kb_tuple_list, kb_tuple_dict, kb_dict_int, kb_dict_bool, kb_dict_str, kb_dict_tuple, kb_dict_list, kb_dict_dict, String.reduceEq, Int.reduceLT, Int.reduceLE, Int.reduceNeg, Int.reducePow, Nat.reducePow, Int.reduceToNat, Nat.reduceLT, Nat.reduceLeDiff, decide_true, decide_false, and_self, and_true, true_and, or_true, true_or, or_false, false_or, Bool.not_true, Bool.not_false, Bool.true_eq_false, Bool.false_eq_true, Option.map_some, Option.map_none]
          rw [show (1 : Int) = ((1 : Nat) : Int) from rfl, cutD_drop, List.map_drop]) (te := cBin opLe (cV 5) (cV 6)) (fun a b μ' => by simp only [cV_, cK_, cBin_, cCall_, cCons_, cNil_, cH_, cD_, cA_, cT_, cIf_, cAndT_, cOrT_, cNotT_, cAndV_, cOrV_, cNotV_, cChain_, cSl_, cPart_, cNoPart_, cMt_, cIsi_, cNeg_, cFn_, sNil_, sCons_, sIf_, sSet_, sPar_, sExpr_, sRet_, sRetN_, sRaise_, sBrk_, sCnt_, sStore_, fnOf_, iAny_, iR1_, iR2_, iEn_, gN_, gT_, gsN_, gsC_, stepS_, cYes_, lcF_, bT, iP, isTy, tyName, opTup, opLst, opAdd, opII, cDivB, opMul, opOrd, opEq, kD_nn, kD_ii, kD_bb, kD_ss, kD_ni, kD_nb, kD_ns, kD_in, kD_bn, kD_sn, kD_is, kD_si, kD_bs, kD_sb, kD_tuple1, kD_tuple2, kD_list1, kD_list2, kD_ib, kD_bi, opIsN, opIx, opSl, one, fLen, fInt, fAbs, fTup, fList, see, hold, toD, adopt, Rs.bind, Rs.thenS, opStore, expo, itmOf, wipeR, mAppend, mExtend, sAsg_, List.mapM_cons, List.mapM_nil, Option.bind_eq_bind, Option.bind_some, Option.pure_def, List.append_assoc, sz0, sy0, sz1, sy1, sz2, sy2, sz3, sy3, sz4, sy4, sz5, sy5, sz6, sy6, sz7, sy7, sz8, sy8, sz9, sy9, sz10, sy10, sz11, sy11, sz12, sy12, sz13, sy13, sz14, sy14, sz15, sy15, sz16, sy16, sz17, sy17, sz18, sy18, sz19, sy19, sz20, sy20, sz21, sy21, sz22, sy22, sz23, sy23, sz24, sy24, sz25, sy25, sz26, sy26, sz27, sy27, sz28, sy28, sz29, sy29, sz30, sy30, sz31, sy31, sz32, sy32, sz33, sy33, sz34, sy34, sz35, sy35, sz36, sy36, sz37, sy37, sz38, sy38, sz39, sy39, sz40, sy40, sPar3_, iZp_, cIsE_, zipOf, isL, opRepT, opIsB, fMax2, fMin2, mCountB, mIndexB, bools0, bools1, List.getElem?_cons_zero, List.getElem?_cons_succ, List.map_cons, List.map_nil, List.length_cons, List.length_nil, List.cons_append, List.nil_append, List.replicate_succ, List.replicate_zero, List.set_cons_zero, List.set_cons_succ, Nat.zero_add, Nat.reduceAdd, Nat.reduceSub, ↓reduceIte, reduceCtorEq, String.reduceBEq, kb_NoneType_int, kb_NoneType_bool, kb_NoneType_str, kb_NoneType_tuple, kb_NoneType_list, kb_NoneType_dict, kb_bool_int, kb_bool_bool, kb_bool_str, kb_bool_tuple, kb_bool_list, kb_bool_dict, kb_int_int, kb_int_bool, kb_int_str, kb_int_tuple, kb_int_list, kb_int_dict, kb_str_int, kb_str_bool, kb_str_str, kb_str_tuple, kb_str_list, kb_str_dict, kb_list_int, kb_list_bool, kb_list_str, kb_list_tuple, kb_list_list, kb_list_dict, kb_tuple_int, kb_tuple_bool, kb_tuple_str, kb_tuple_tuple, kb_tuple_list, kb_tuple_dict, kb_dict_int, kb_dict_bool, kb_dict_str, kb_dict_tuple, kb_dict_list, kb_dict_dict, String.reduceEq, Int.reduceLT, Int.reduceLE, Int.reduceNeg, Int.reducePow, Nat.reducePow, Int.reduceToNat, Nat.reduceLT, Nat.reduceLeDiff, decide_true, decide_false, and_self, and_true, true_and, or_true, true_or, or_false, false_or, Bool.not_true, Bool.not_false, Bool.true_eq_false, Bool.false_eq_true, Option.map_some, Option.map_none])
        have hD := fun μ => pairs_ok gs h2 (o := opGe) (f := fun a b => decide (b ≤ a)) (fun a b μ => rfl) (k := 0) (ρ := [some (.d (kitD ls gs i b)), some (.d (.tuple (ls.map .int))), some (.d (.tuple (gs.map .int))), some (.d (.int i)), some (.d (.int b)), none, none]) rfl (ci := iZp (cCons (cV 2) (cCons (cH (cSl (cV 2) (cPart (cK (.int 1))) cNoPart)) cNil))) (μ := μ) (by
          simp only [cV_, cK_, cBin_, cCall_, cCons_, cNil_, cH_, cD_, cA_, cT_, cIf_, cAndT_, cOrT_, cNotT_, cAndV_, cOrV_, cNotV_, cChain_, cSl_, cPart_, cNoPart_, cMt_, cIsi_, cNeg_, cFn_, sNil_, sCons_, sIf_, sSet_, sPar_, sExpr_, sRet_, sRetN_, sRaise_, sBrk_, sCnt_, sStore_, fnOf_, iAny_, iR1_, iR2_, iEn_, gN_, gT_, gsN_, gsC_, stepS_, cYes_, lcF_, bT, iP, isTy, tyName, opTup, opLst, opAdd, opII, cDivB, opMul, opOrd, opEq, kD_nn, kD_ii, kD_bb, kD_ss, kD_ni, kD_nb, kD_ns, kD_in, kD_bn, kD_sn, kD_is, kD_si, kD_bs, kD_sb, kD_tuple1, kD_tuple2, kD_list1, kD_list2, kD_ib, kD_bi, opIsN, opIx, opSl, one, fLen, fInt, fAbs, fTup, fList, see, hold, toD, adopt, Rs.bind, Rs.thenS, opStore, expo, itmOf, wipeR, mAppend, mExtend, sAsg_, List.mapM_cons, List.mapM_nil, Option.bind_eq_bind, Option.bind_some, Option.pure_def, List.append_assoc, sz0, sy0, sz1, sy1, sz2, sy2, sz3, sy3, sz4, sy4, sz5, sy5, sz6, sy6, sz7, sy7, sz8, sy8, sz9, sy9, sz10, sy10, sz11, sy11, sz12, sy12, sz13, sy13, sz14, sy14, sz15, sy15, sz16, sy16, sz17, sy17, sz18, sy18, sz19, sy19, sz20, sy20, sz21, sy21, sz22, sy22, sz23, sy23, sz24, sy24, sz25, sy25, sz26, sy26, sz27, sy27, sz28, sy28, sz29, sy29, sz30, sy30, sz31, sy31, sz32, sy32, sz33, sy33, sz34, sy34, sz35, sy35, sz36, sy36, sz37, sy37, sz38, sy38, sz39, sy39, sz40, sy40, sPar3_, iZp_, cIsE_, zipOf, isL, opRepT, opIsB, fMax2, fMin2, mCountB, mIndexB, bools0, bools1, List.getElem?_cons_zero, List.getElem?_cons_succ, List.map_cons, List.map_nil, List.length_cons, List.length_nil, List.cons_append, List.nil_append, List.replicate_succ, List.replicate_zero, List.set_cons_zero, List.set_cons_succ, Nat.zero_add, Nat.reduceAdd, Nat.reduceSub, ↓reduceIte, reduceCtorEq, String.reduceBEq, kb_NoneType_int, kb_NoneType_bool, kb_NoneType_str, kb_NoneType_tuple, kb_NoneType_list, kb_NoneType_dict, kb_bool_int, kb_bool_bool, kb_bool_str, kb_bool_tuple, kb_bool_list, kb_bool_dict, kb_int_int, kb_int_bool, kb_int_str, kb_int_tuple, kb_int_list, kb_int_dict, kb_str_int, kb_str_bool, kb_str_str, kb_str_tuple, kb_str_list, kb_str_dict, kb_list_int, kb_list_bool, kb_list_str, kb_list_tuple, kb_list_list, kb_list_dict, kb_tuple_int, kb_tuple_bool, kb_tuple_str, kb_tuple_tuple, kb_tuple_list, kb_tuple_dict, kb_dict_int, kb_dict_bool, kb_dict_str, kb_dict_tuple, kb_dict_list, kb_dict_dict, String.reduceEq, Int.reduceLT, Int.reduceLE, Int.reduceNeg, Int.reducePow, Nat.reducePow, Int.reduceToNat, Nat.reduceLT, Nat.reduceLeDiff, decide_true, decide_false, and_self, and_true, true_and, or_true, true_or, or_false, false_or, Bool.not_true, Bool.not_false, Bool.true_eq_false, Bool.false_eq_true, Option.map_some, Option.map_none]
          rw [show (1 : Int) = ((1 : Nat) : Int) from rfl, cutD_drop, List.map_drop]) (te := cBin opGe (cV 5) (cV 6)) (fun a b μ' => by simp only [cV_, cK_, cBin_, cCall_, cCons_, cNil_, cH_, cD_, cA_, cT_, cIf_, cAndT_, cOrT_, cNotT_, cAndV_, cOrV_, cNotV_, cChain_, cSl_, cPart_, cNoPart_, cMt_, cIsi_, cNeg_, cFn_, sNil_, sCons_, sIf_, sSet_, sPar_, sExpr_, sRet_, sRetN_, sRaise_, sBrk_, sCnt_, sStore_, fnOf_, iAny_, iR1_, iR2_, iEn_, gN_, gT_, gsN_, gsC_, stepS_, cYes_, lcF_, bT, iP, isTy, tyName, opTup, opLst, opAdd, opII, cDivB, opMul, opOrd, opEq, kD_nn, kD_ii, kD_bb, kD_ss, kD_ni, kD_nb, kD_ns, kD_in, kD_bn, kD_sn, kD_is, kD_si, kD_bs, kD_sb, kD_tuple1, kD_tuple2, kD_list1, kD_list2, kD_ib, kD_bi, opIsN, opIx, opSl, one, fLen, fInt, fAbs, fTup, fList, see, hold, toD, adopt, Rs.bind, Rs.thenS, opStore, expo, itmOf, wipeR, mAppend, mExtend, sAsg_, List.mapM_cons, List.mapM_nil, Option.bind_eq_bind, Option.bind_some, Option.pure_def, List.append_assoc, sz0, sy0, sz1, sy1, sz2, sy2, sz3, sy3, sz4, sy4, sz5, sy5, sz6, sy6, sz7, sy7, sz8, sy8, sz9, sy9, sz10, sy10, sz11, sy11, sz12, sy12, sz13, sy13, sz14, sy14, sz15, sy15, sz16, sy16, sz17, sy17, sz18, sy18, sz19, sy19, sz20, sy20, sz21, sy21, sz22, sy22, sz23, sy23, sz24, sy24, sz25, sy25, sz26, sy26, sz27, sy27, sz28, sy28, sz29, sy29, sz30, sy30, sz31, sy31, sz32, sy32, sz33, sy33, sz34, sy34, sz35, sy35, sz36, sy36, sz37, sy37, sz38, sy38, sz39, sy39, sz40, sy40, sPar3_, iZp_, cIsE_, zipOf, isL, opRepT, opIsB, fMax2, fMin2, mCountB, mIndexB, bools0, bools1, List.getElem?_cons_zero, List.getElem?_cons_succ, List.map_cons, List.map_nil, List.length_cons, List.length_nil, List.cons_append, List.nil_append, List.replicate_succ, List.replicate_zero, List.set_cons_zero, List.set_cons_succ, Nat.zero_add, Nat.reduceAdd, Nat.reduceSub, ↓reduceIte, reduceCtorEq, String.reduceBEq, kb_NoneType_int, kb_NoneType_bool, kb_NoneType_str, kb_NoneType_tuple, kb_NoneType_list, kb_NoneType_dict, kb_bool_int, kb_bool_bool, kb_bool_str, kb_bool_tuple, kb_bool_list, kb_bool_dict, kb_int_int, kb_int_bool, kb_int_str, kb_int_tuple, kb_int_list, kb_int_dict, kb_str_int, kb_str_bool, kb_str_str, kb_str_tuple, kb_str_list, kb_str_dict, kb_list_int, kb_list_bool, kb_list_str, kb_list_tuple, kb_list_list, kb_list_dict, kb_tuple_int, kb_tuple_bool, kb_tuple_str, kb_tuple_tuple, kb_tuple_list, kb_tuple_dict, kb_dict_int, kb_dict_bool, kb_dict_str, kb_dict_tuple, kb_dict_list, kb_dict_dict, String.reduceEq, Int.reduceLT, Int.reduceLE, Int.reduceNeg, Int.reducePow, Nat.reducePow, Int.reduceToNat, Nat.reduceLT, Nat.reduceLeDiff, decide_true, decide_false, and_self, and_true, true_and, or_true, true_or, or_false, false_or, Bool.not_true, Bool.not_false, Bool.true_eq_false, Bool.false_eq_true, Option.map_some, Option.map_none])
        have uU : ((ls.zip (ls.drop 1)).map fun p => decide (p.1 ≤ p.2)).all id = upL ls := by rw [List.all_map]; rfl
        have uD : ((gs.zip (gs.drop 1)).map fun p => decide (p.2 ≤ p.1)).all id = downL gs := by rw [List.all_map]; rfl
        unfold kitD at hU hD
        by_cases c4 : (ls.headD 1 == 0) = true
        · by_cases c5 : upL ls = true
          · by_cases c6 : downL gs = true
            · by_cases c7 : decide (0 ≤ i ∧ i ≤ 1000) = true
              · simp only [F_is_kit, C_is_kit, kitD, cV_, cK_, cBin_, cCall_, cCons_, cNil_, cH_, cD_, cA_, cT_, cIf_, cAndT_, cOrT_, cNotT_, cAndV_, cOrV_, cNotV_, cChain_, cSl_, cPart_, cNoPart_, cMt_, cIsi_, cNeg_, cFn_, sNil_, sCons_, sIf_, sSet_, sPar_, sExpr_, sRet_, sRetN_, sRaise_, sBrk_, sCnt_, sStore_, fnOf_, iAny_, iR1_, iR2_, iEn_, gN_, gT_, gsN_, gsC_, stepS_, cYes_, lcF_, bT, iP, isTy, tyName, opTup, opLst, opAdd, opII, cDivB, opMul, opOrd, opEq, kD_nn, kD_ii, kD_bb, kD_ss, kD_ni, kD_nb, kD_ns, kD_in, kD_bn, kD_sn, kD_is, kD_si, kD_bs, kD_sb, kD_tuple1, kD_tuple2, kD_list1, kD_list2, kD_ib, kD_bi, opIsN, opIx, opSl, one, fLen, fInt, fAbs, fTup, fList, see, hold, toD, adopt, Rs.bind, Rs.thenS, opStore, expo, itmOf, wipeR, mAppend, mExtend, sAsg_, List.mapM_cons, List.mapM_nil, Option.bind_eq_bind, Option.bind_some, Option.pure_def, List.append_assoc, sz0, sy0, sz1, sy1, sz2, sy2, sz3, sy3, sz4, sy4, sz5, sy5, sz6, sy6, sz7, sy7, sz8, sy8, sz9, sy9, sz10, sy10, sz11, sy11, sz12, sy12, sz13, sy13, sz14, sy14, sz15, sy15, sz16, sy16, sz17, sy17, sz18, sy18, sz19, sy19, sz20, sy20, sz21, sy21, sz22, sy22, sz23, sy23, sz24, sy24, sz25, sy25, sz26, sy26, sz27, sy27, sz28, sy28, sz29, sy29, sz30, sy30, sz31, sy31, sz32, sy32, sz33, sy33, sz34, sy34, sz35, sy35, sz36, sy36, sz37, sy37, sz38, sy38, sz39, sy39, sz40, sy40, sPar3_, iZp_, cIsE_, zipOf, isL, opRepT, opIsB, fMax2, fMin2, mCountB, mIndexB, bools0, bools1, List.getElem?_cons_zero, List.getElem?_cons_succ, List.map_cons, List.map_nil, List.length_cons, List.length_nil, List.cons_append, List.nil_append, List.replicate_succ, List.replicate_zero, List.set_cons_zero, List.set_cons_succ, Nat.zero_add, Nat.reduceAdd, Nat.reduceSub, ↓reduceIte, reduceCtorEq, String.reduceBEq, kb_NoneType_int, kb_NoneType_bool, kb_NoneType_str, kb_NoneType_tuple, kb_NoneType_list, kb_NoneType_dict, kb_bool_int, kb_bool_bool, kb_bool_str, kb_bool_tuple, kb_bool_list, kb_bool_dict, kb_int_int, kb_int_bool, kb_int_str, kb_int_tuple, kb_int_list, kb_int_dict, kb_str_int, kb_str_bool, kb_str_str, kb_str_tuple, kb_str_list, kb_str_dict, kb_list_int, kb_list_bool, kb_list_str, kb_list_tuple, kb_list_list, kb_list_dict, kb_tuple_int, kb_tuple_bool, kb_tuple_str, kb_tuple_tuple, kb_tuple_list, kb_tuple_dict, kb_dict_int, kb_dict_bool, kb_dict_str, kb_dict_tuple, kb_dict_list, kb_dict_dict, String.reduceEq, Int.reduceLT, Int.reduceLE, Int.reduceNeg, Int.reducePow, Nat.reducePow, Int.reduceToNat, Nat.reduceLT, Nat.reduceLeDiff, decide_true, decide_false, and_self, and_true, true_and, or_true, true_or, or_false, false_or, Bool.not_true, Bool.not_false, Bool.true_eq_false, Bool.false_eq_true, Option.map_some, Option.map_none, e4, ix0, ix11, ix42, ix43, p1, c1, p2, c2, c3', hx0, PyData.eqv, c4, hU, hD, fBools, boolsOf_map, uU, uD, c5, c6, iw, bw, c7, c3, Bool.true_and, Bool.false_and, List.take_length, Bool.not_true, Bool.not_false]
              · have c7' := Bool.eq_false_iff.mpr c7
                simp only [F_is_kit, C_is_kit, kitD, cV_, cK_, cBin_, cCall_, cCons_, cNil_, cH_, cD_, cA_, cT_, cIf_, cAndT_, cOrT_, cNotT_, cAndV_, cOrV_, cNotV_, cChain_, cSl_, cPart_, cNoPart_, cMt_, cIsi_, cNeg_, cFn_, sNil_, sCons_, sIf_, sSet_, sPar_, sExpr_, sRet_, sRetN_, sRaise_, sBrk_, sCnt_, sStore_, fnOf_, iAny_, iR1_, iR2_, iEn_, gN_, gT_, gsN_, gsC_, stepS_, cYes_, lcF_, bT, iP, isTy, tyName, opTup, opLst, opAdd, opII, cDivB, opMul, opOrd, opEq, kD_nn, kD_ii, kD_bb, kD_ss, kD_ni, kD_nb, kD_ns, kD_in, kD_bn, kD_sn, kD_is, kD_si, kD_bs, kD_sb, kD_tuple1, kD_tuple2, kD_list1, kD_list2, kD_ib, kD_bi, opIsN, opIx, opSl, one, fLen, fInt, fAbs, fTup, fList, see, hold, toD, adopt, Rs.bind, Rs.thenS, opStore, expo, itmOf, wipeR, mAppend, mExtend, sAsg_, List.mapM_cons, List.mapM_nil, Option.bind_eq_bind, Option.bind_some, Option.pure_def, List.append_assoc, sz0, sy0, sz1, sy1, sz2, sy2, sz3, sy3, sz4, sy4, sz5, sy5, sz6, sy6, sz7, sy7, sz8, sy8, sz9, sy9, sz10, sy10, sz11, sy11, sz12, sy12, sz13, sy13, sz14, sy14, sz15, sy15, sz16, sy16, sz17, sy17, sz18, sy18, sz19, sy19, sz20, sy20, sz21, sy21, sz22, sy22, sz23, sy23, sz24, sy24, sz25, sy25, sz26, sy26, sz27, sy27, sz28, sy28, sz29, sy29, sz30, sy30, sz31, sy31, sz32, sy32, sz33, sy33, sz34, sy34, sz35, sy35, sz36, sy36, sz37, sy37, sz38, sy38, sz39, sy39, sz40, sy40, sPar3_, iZp_, cIsE_, zipOf, isL, opRepT, opIsB, fMax2, fMin2, mCountB, mIndexB, bools0, bools1, List.getElem?_cons_zero, List.getElem?_cons_succ, List.map_cons, List.map_nil, List.length_cons, List.length_nil, List.cons_append, List.nil_append, List.replicate_succ, List.replicate_zero, List.set_cons_zero, List.set_cons_succ, Nat.zero_add, Nat.reduceAdd, Nat.reduceSub, ↓reduceIte, reduceCtorEq, String.reduceBEq, kb_NoneType_int, kb_NoneType_bool, kb_NoneType_str, kb_NoneType_tuple, kb_NoneType_list, kb_NoneType_dict, kb_bool_int, kb_bool_bool, kb_bool_str, kb_bool_tuple, kb_bool_list, kb_bool_dict, kb_int_int, kb_int_bool, kb_int_str, kb_int_tuple, kb_int_list, kb_int_dict, kb_str_int, kb_str_bool, kb_str_str, kb_str_tuple, kb_str_list, kb_str_dict, kb_list_int, kb_list_bool, kb_list_str, kb_list_tuple, kb_list_list, kb_list_dict, kb_tuple_int, kb_tuple_bool, kb_tuple_str, kb_tuple_tuple, kb_tuple_list, kb_tuple_dict, kb_dict_int, kb_dict_bool, kb_dict_str, kb_dict_tuple, kb_dict_list, kb_dict_dict, String.reduceEq, Int.reduceLT, Int.reduceLE, Int.reduceNeg, Int.reducePow, Nat.reducePow, Int.reduceToNat, Nat.reduceLT, Nat.reduceLeDiff, decide_true, decide_false, and_self, and_true, true_and, or_true, true_or, or_false, false_or, Bool.not_true, Bool.not_false, Bool.true_eq_false, Bool.false_eq_true, Option.map_some, Option.map_none, e4, ix0, ix11, ix42, ix43, p1, c1, p2, c2, c3', hx0, PyData.eqv, c4, hU, hD, fBools, boolsOf_map, uU, uD, c5, c6, iw, bw, c7', c3, Bool.true_and, Bool.false_and, List.take_length, Bool.not_true, Bool.not_false]
            · have c6' := Bool.eq_false_iff.mpr c6
              simp only [F_is_kit, C_is_kit, kitD, cV_, cK_, cBin_, cCall_, cCons_, cNil_, cH_, cD_, cA_, cT_, cIf_, cAndT_, cOrT_, cNotT_, cAndV_, cOrV_, cNotV_, cChain_, cSl_, cPart_, cNoPart_, cMt_, cIsi_, cNeg_, cFn_, sNil_, sCons_, sIf_, sSet_, sPar_, sExpr_, sRet_, sRetN_, sRaise_, sBrk_, sCnt_, sStore_, fnOf_, iAny_, iR1_, iR2_, iEn_, gN_, gT_, gsN_, gsC_, stepS_, cYes_, lcF_, bT, iP, isTy, tyName, opTup, opLst, opAdd, opII, cDivB, opMul, opOrd, opEq, kD_nn, kD_ii, kD_bb, kD_ss, kD_ni, kD_nb, kD_ns, kD_in, kD_bn, kD_sn, kD_is, kD_si, kD_bs, kD_sb, kD_tuple1, kD_tuple2, kD_list1, kD_list2, kD_ib, kD_bi, opIsN, opIx, opSl, one, fLen, fInt, fAbs, fTup, fList, see, hold, toD, adopt, Rs.bind, Rs.thenS, opStore, expo, itmOf, wipeR, mAppend, mExtend, sAsg_, List.mapM_cons, List.mapM_nil, Option.bind_eq_bind, Option.bind_some, Option.pure_def, List.append_assoc, sz0, sy0, sz1, sy1, sz2, sy2, sz3, sy3, sz4, sy4, sz5, sy5, sz6, sy6, sz7, sy7, sz8, sy8, sz9, sy9, sz10, sy10, sz11, sy11, sz12, sy12, sz13, sy13, sz14, sy14, sz15, sy15, sz16, sy16, sz17, sy17, sz18, sy18, sz19, sy19, sz20, sy20, sz21, sy21, sz22, sy22, sz23, sy23, sz24, sy24, sz25, sy25, sz26, sy26, sz27, sy27, sz28, sy28, sz29, sy29, sz30, sy30, sz31, sy31, sz32, sy32, sz33, sy33, sz34, sy34, sz35, sy35, sz36, sy36, sz37, sy37, sz38, sy38, sz39, sy39, sz40, sy40, sPar3_, iZp_, cIsE_, zipOf, isL, opRepT, opIsB, fMax2, fMin2, mCountB, mIndexB, bools0, bools1, List.getElem?_cons_zero, List.getElem?_cons_succ, List.map_cons, List.map_nil, List.length_cons, List.length_nil, List.cons_append, List.nil_append, List.replicate_succ, List.replicate_zero, List.set_cons_zero, List.set_cons_succ, Nat.zero_add, Nat.reduceAdd, Nat.reduceSub, ↓reduceIte, reduceCtorEq, String.reduceBEq, kb_NoneType_int, kb_NoneType_bool, kb_NoneType_str, kb_NoneType_tuple, kb_NoneType_list, kb_NoneType_dict, kb_bool_int, kb_bool_bool, kb_bool_str, kb_bool_tuple, kb_bool_list, kb_bool_dict, kb_int_int, kb_int_bool, kb_int_str, kb_int_tuple, kb_int_list, kb_int_dict, kb_str_int, kb_str_bool, kb_str_str, kb_str_tuple, kb_str_list, kb_str_dict, kb_list_int, kb_list_bool, kb_list_str, kb_list_tuple, kb_list_list, kb_list_dict, kb_tuple_int, kb_tuple_bool, kb_tuple_str, kb_tuple_tuple, kb_tuple_list, kb_tuple_dict, kb_dict_int, kb_dict_bool, kb_dict_str, kb_dict_tuple, kb_dict_list, kb_dict_dict, String.reduceEq, Int.reduceLT, Int.reduceLE, Int.reduceNeg, Int.reducePow, Nat.reducePow, Int.reduceToNat, Nat.reduceLT, Nat.reduceLeDiff, decide_true, decide_false, and_self, and_true, true_and, or_true, true_or, or_false, false_or, Bool.not_true, Bool.not_false, Bool.true_eq_false, Bool.false_eq_true, Option.map_some, Option.map_none, e4, ix0, ix11, ix42, ix43, p1, c1, p2, c2, c3', hx0, PyData.eqv, c4, hU, hD, fBools, boolsOf_map, uU, uD, c5, c6', c3, Bool.true_and, Bool.false_and, List.take_length, Bool.not_true, Bool.not_false]
          · have c5' := Bool.eq_false_iff.mpr c5
            simp only [F_is_kit, C_is_kit, kitD, cV_, cK_, cBin_, cCall_, cCons_, cNil_, cH_, cD_, cA_, cT_, cIf_, cAndT_, cOrT_, cNotT_, cAndV_, cOrV_, cNotV_, cChain_, cSl_, cPart_, cNoPart_, cMt_, cIsi_, cNeg_, cFn_, sNil_, sCons_, sIf_, sSet_, sPar_, sExpr_, sRet_, sRetN_, sRaise_, sBrk_, sCnt_, sStore_, fnOf_, iAny_, iR1_, iR2_, iEn_, gN_, gT_, gsN_, gsC_, stepS_, cYes_, lcF_, bT, iP, isTy, tyName, opTup, opLst, opAdd, opII, cDivB, opMul, opOrd, opEq, kD_nn, kD_ii, kD_bb, kD_ss, kD_ni, kD_nb, kD_ns, kD_in, kD_bn, kD_sn, kD_is, kD_si, kD_bs, kD_sb, kD_tuple1, kD_tuple2, kD_list1, kD_list2, kD_ib, kD_bi, opIsN, opIx, opSl, one, fLen, fInt, fAbs, fTup, fList, see, hold, toD, adopt, Rs.bind, Rs.thenS, opStore, expo, itmOf, wipeR, mAppend, mExtend, sAsg_, List.mapM_cons, List.mapM_nil, Option.bind_eq_bind, Option.bind_some, Option.pure_def, List.append_assoc, sz0, sy0, sz1, sy1, sz2, sy2, sz3, sy3, sz4, sy4, sz5, sy5, sz6, sy6, sz7, sy7, sz8, sy8, sz9, sy9, sz10, sy10, sz11, sy11, sz12, sy12, sz13, sy13, sz14, sy14, sz15, sy15, sz16, sy16, sz17, sy17, sz18, sy18, sz19, sy19, sz20, sy20, sz21, sy21, sz22, sy22, sz23, sy23, sz24, sy24, sz25, sy25, sz26, sy26, sz27, sy27, sz28, sy28, sz29, sy29, sz30, sy30, sz31, sy31, sz32, sy32, sz33, sy33, sz34, sy34, sz35, sy35, sz36, sy36, sz37, sy37, sz38, sy38, sz39, sy39, sz40, sy40, sPar3_, iZp_, cIsE_, zipOf, isL, opRepT, opIsB, fMax2, fMin2, mCountB, mIndexB, bools0, bools1, List.getElem?_cons_zero, List.getElem?_cons_succ, List.map_cons, List.map_nil, List.length_cons, List.length_nil, List.cons_append, List.nil_append, List.replicate_succ, List.replicate_zero, List.set_cons_zero, List.set_cons_succ, Nat.zero_add, Nat.reduceAdd, Nat.reduceSub, ↓reduceIte, reduceCtorEq, String.reduceBEq, kb_NoneType_int, kb_NoneType_bool, kb_NoneType_str, kb_NoneType_tuple, kb_NoneType_list, kb_NoneType_dict, kb_bool_int, kb_bool_bool, kb_bool_str, kb_bool_tuple, kb_bool_list, kb_bool_dict, kb_int_int, kb_int_bool, kb_int_str, kb_int_tuple, kb_int_list, kb_int_dict, kb_str_int, kb_str_bool, kb_str_str, kb_str_tuple, kb_str_list, kb_str_dict, kb_list_int, kb_list_bool, kb_list_str, kb_list_tuple, kb_list_list, kb_list_dict, kb_tuple_int, kb_tuple_bool, kb_tuple_str, kb_tuple_tuple, kb_tuple_list, kb_tuple_dict, kb_dict_int, kb_dict_bool, kb_dict_str, kb_dict_tuple, kb_dict_list, kb_dict_dict, String.reduceEq, Int.reduceLT, Int.reduceLE, Int.reduceNeg, Int.reducePow, Nat.reducePow, Int.reduceToNat, Nat.reduceLT, Nat.reduceLeDiff, decide_true, decide_false, and_self, and_true, true_and, or_true, true_or, or_false, false_or, Bool.not_true, Bool.not_false, Bool.true_eq_false, Bool.false_eq_true, Option.map_some, Option.map_none, e4, ix0, ix11, ix42, ix43, p1, c1, p2, c2, c3', hx0, PyData.eqv, c4, hU, hD, fBools, boolsOf_map, uU, uD, c5', c3, Bool.true_and, Bool.false_and, List.take_length, Bool.not_true, Bool.not_false]
        · have c4' := Bool.eq_false_iff.mpr c4
          simp only [F_is_kit, C_is_kit, kitD, cV_, cK_, cBin_, cCall_, cCons_, cNil_, cH_, cD_, cA_, cT_, cIf_, cAndT_, cOrT_, cNotT_, cAndV_, cOrV_, cNotV_, cChain_, cSl_, cPart_, cNoPart_, cMt_, cIsi_, cNeg_, cFn_, sNil_, sCons_, sIf_, sSet_, sPar_, sExpr_, sRet_, sRetN_, sRaise_, sBrk_, sCnt_, sStore_, fnOf_, iAny_, iR1_, iR2_, iEn_, gN_, gT_, gsN_, gsC_, stepS_, cYes_, lcF_, bT, iP, isTy, tyName, opTup, opLst, opAdd, opII, cDivB, opMul, opOrd, opEq, kD_nn, kD_ii, kD_bb, kD_ss, kD_ni, kD_nb, kD_ns, kD_in, kD_bn, kD_sn, kD_is, kD_si, kD_bs, kD_sb, kD_tuple1, kD_tuple2, kD_list1, kD_list2, kD_ib, kD_bi, opIsN, opIx, opSl, one, fLen, fInt, fAbs, fTup, fList, see, hold, toD, adopt, Rs.bind, Rs.thenS, opStore, expo, itmOf, wipeR, mAppend, mExtend, sAsg_, List.mapM_cons, List.mapM_nil, Option.bind_eq_bind, Option.bind_some, Option.pure_def, List.append_assoc, sz0, sy0, sz1, sy1, sz2, sy2, sz3, sy3, sz4, sy4, sz5, sy5, sz6, sy6, sz7, sy7, sz8, sy8, sz9, sy9, sz10, sy10, sz11, sy11, sz12, sy12, sz13, sy13, sz14, sy14, sz15, sy15, sz16, sy16, sz17, sy17, sz18, sy18, sz19, sy19, sz20, sy20, sz21, sy21, sz22, sy22, sz23, sy23, sz24, sy24, sz25, sy25, sz26, sy26, sz27, sy27, sz28, sy28, sz29, sy29, sz30, sy30, sz31, sy31, sz32, sy32, sz33, sy33, sz34, sy34, sz35, sy35, sz36, sy36, sz37, sy37, sz38, sy38, sz39, sy39, sz40, sy40, sPar3_, iZp_, cIsE_, zipOf, isL, opRepT, opIsB, fMax2, fMin2, mCountB, mIndexB, bools0, bools1, List.getElem?_cons_zero, List.getElem?_cons_succ, List.map_cons, List.map_nil, List.length_cons, List.length_nil, List.cons_append, List.nil_append, List.replicate_succ, List.replicate_zero, List.set_cons_zero, List.set_cons_succ, Nat.zero_add, Nat.reduceAdd, Nat.reduceSub, ↓reduceIte, reduceCtorEq, String.reduceBEq, kb_NoneType_int, kb_NoneType_bool, kb_NoneType_str, kb_NoneType_tuple, kb_NoneType_list, kb_NoneType_dict, kb_bool_int, kb_bool_bool, kb_bool_str, kb_bool_tuple, kb_bool_list, kb_bool_dict, kb_int_int, kb_int_bool, kb_int_str, kb_int_tuple, kb_int_list, kb_int_dict, kb_str_int, kb_str_bool, kb_str_str, kb_str_tuple, kb_str_list, kb_str_dict, kb_list_int, kb_list_bool, kb_list_str, kb_list_tuple, kb_list_list, kb_list_dict, kb_tuple_int, kb_tuple_bool, kb_tuple_str, kb_tuple_tuple, kb_tuple_list, kb_tuple_dict, kb_dict_int, kb_dict_bool, kb_dict_str, kb_dict_tuple, kb_dict_list, kb_dict_dict, String.reduceEq, Int.reduceLT, Int.reduceLE, Int.reduceNeg, Int.reducePow, Nat.reducePow, Int.reduceToNat, Nat.reduceLT, Nat.reduceLeDiff, decide_true, decide_false, and_self, and_true, true_and, or_true, true_or, or_false, false_or, Bool.not_true, Bool.not_false, Bool.true_eq_false, Bool.false_eq_true, Option.map_some, Option.map_none, e4, ix0, ix11, ix42, ix43, p1, c1, p2, c2, c3', hx0, PyData.eqv, c4', c3, Bool.true_and, Bool.false_and, List.take_length, Bool.not_true, Bool.not_false]
      · have c3' : ((((ls.map PyData.int).length : Nat) : Int) == (((gs.map PyData.int).length : Nat) : Int)) = false := by
          rw [List.length_map, List.length_map]
          have : ¬ ls.length = gs.length := by simpa using c3
          have : ¬ ((ls.length : Int) = (gs.length : Int)) := by omega
          simpa using this
        have c3'' := Bool.eq_false_iff.mpr c3
        simp only [F_is_kit, C_is_kit, kitD, cV_, cK_, cBin_, cCall_, cCons_, cNil_, cH_, cD_, cA_, cT_, cIf_, cAndT_, cOrT_, cNotT_, cAndV_, cOrV_, cNotV_, cChain_, cSl_, cPart_, cNoPart_, cMt_, cIsi_, cNeg_, cFn_, sNil_, sCons_, sIf_, sSet_, sPar_, sExpr_, sRet_, sRetN_, sRaise_, sBrk_, sCnt_, sStore_, fnOf_, iAny_, iR1_, iR2_, iEn_, gN_, gT_, gsN_, gsC_, stepS_, cYes_, lcF_, bT, iP, isTy, tyName, opTup, opLst, opAdd, opII, cDivB, opMul, opOrd, opEq, kD_nn, kD_ii, kD_bb, kD_ss, kD_ni, kD_nb, kD_ns, kD_in, kD_bn, kD_sn, kD_is, kD_si, kD_bs, kD_sb, kD_tuple1, kD_tuple2, kD_list1, kD_list2, kD_ib, kD_bi, opIsN, opIx, opSl, one, fLen, fInt, fAbs, fTup, fList, see, hold, toD, adopt, Rs.bind, Rs.thenS, opStore, expo, itmOf, wipeR, mAppend, mExtend, sAsg_, List.mapM_cons, List.mapM_nil, Option.bind_eq_bind, Option.bind_some, Option.pure_def, List.append_assoc, sz0, sy0, sz1, sy1, sz2, sy2, sz3, sy3, sz4, sy4, sz5, sy5, sz6, sy6, sz7, sy7, sz8, sy8, sz9, sy9, sz10, sy10, sz11, sy11, sz12, sy12, sz13, sy13, sz14, sy14, sz15, sy15, sz16, sy16, sz17, sy17, sz18, sy18, sz19, sy19, sz20, sy20, sz21, sy21, sz22, sy22, sz23, sy23, sz24, sy24, sz25, sy25, sz26, sy26, sz27, sy27, sz28, sy28, sz29, sy29, sz30, sy30, sz31, sy31, sz32, sy32, sz33, sy33, sz34, sy34, sz35, sy35, sz36, sy36, sz37, sy37, sz38, sy38, sz39, sy39, sz40, sy40, sPar3_, iZp_, cIsE_, zipOf, isL, opRepT, opIsB, fMax2, fMin2, mCountB, mIndexB, bools0, bools1, List.getElem?_cons_zero, List.getElem?_cons_succ, List.map_cons, List.map_nil, List.length_cons, List.length_nil, List.cons_append, List.nil_append, List.replicate_succ, List.replicate_zero, List.set_cons_zero, List.set_cons_succ, Nat.zero_add, Nat.reduceAdd, Nat.reduceSub, ↓reduceIte, reduceCtorEq, String.reduceBEq, kb_NoneType_int, kb_NoneType_bool, kb_NoneType_str, kb_NoneType_tuple, kb_NoneType_list, kb_NoneType_dict, kb_bool_int, kb_bool_bool, kb_bool_str, kb_bool_tuple, kb_bool_list, kb_bool_dict, kb_int_int, kb_int_bool, kb_int_str, kb_int_tuple, kb_int_list, kb_int_dict, kb_str_int, kb_str_bool, kb_str_str, kb_str_tuple, kb_str_list, kb_str_dict, kb_list_int, kb_list_bool, kb_list_str, kb_list_tuple, kb_list_list, kb_list_dict, kb_tuple_int, kb_tuple_bool, kb_tuple_str, kb_tuple_tuple, kb_tuple_list, kb_tuple_dict, kb_dict_int, kb_dict_bool, kb_dict_str, kb_dict_tuple, kb_dict_list, kb_dict_dict, String.reduceEq, Int.reduceLT, Int.reduceLE, Int.reduceNeg, Int.reducePow, Nat.reducePow, Int.reduceToNat, Nat.reduceLT, Nat.reduceLeDiff, decide_true, decide_false, and_self, and_true, true_and, or_true, true_or, or_false, false_or, Bool.not_true, Bool.not_false, Bool.true_eq_false, Bool.false_eq_true, Option.map_some, Option.map_none, e4, ix0, ix11, ix42, ix43, p1, c1, p2, c2, c3', PyData.eqv, c3'', Bool.true_and, Bool.false_and, List.take_length, Bool.not_true, Bool.not_false]
    · have c2' := Bool.eq_false_iff.mpr c2
      simp only [F_is_kit, C_is_kit, kitD, cV_, cK_, cBin_, cCall_, cCons_, cNil_, cH_, cD_, cA_, cT_, cIf_, cAndT_, cOrT_, cNotT_, cAndV_, cOrV_, cNotV_, cChain_, cSl_, cPart_, cNoPart_, cMt_, cIsi_, cNeg_, cFn_, sNil_, sCons_, sIf_, sSet_, sPar_, sExpr_, sRet_, sRetN_, sRaise_, sBrk_, sCnt_, sStore_, fnOf_, iAny_, iR1_, iR2_, iEn_, gN_, gT_, gsN_, gsC_, stepS_, cYes_, lcF_, bT, iP, isTy, tyName, opTup, opLst, opAdd, opII, cDivB, opMul, opOrd, opEq, kD_nn, kD_ii, kD_bb, kD_ss, kD_ni, kD_nb, kD_ns, kD_in, kD_bn, kD_sn, kD_is, kD_si, kD_bs, kD_sb, kD_tuple1, kD_tuple2, kD_list1, kD_list2, kD_ib, kD_bi, opIsN, opIx, opSl, one, fLen, fInt, fAbs, fTup, fList, see, hold, toD, adopt, Rs.bind, Rs.thenS, opStore, expo, itmOf, wipeR, mAppend, mExtend, sAsg_, List.mapM_cons, List.mapM_nil, Option.bind_eq_bind, Option.bind_some, Option.pure_def, List.append_assoc, sz0, sy0, sz1, sy1, sz2, sy2, sz3, sy3, sz4, sy4, sz5, sy5, sz6, sy6, sz7, sy7, sz8, sy8, sz9, sy9, sz10, sy10, sz11, sy11, sz12, sy12, sz13, sy13, sz14, sy14, sz15, sy15, sz16, sy16, sz17, sy17, sz18, sy18, sz19, sy19, sz20, sy20, sz21, sy21, sz22, sy22, sz23, sy23, sz24, sy24, sz25, sy25, sz26, sy26, sz27, sy27, sz28, sy28, sz29, sy29, sz30, sy30, sz31, sy31, sz32, sy32, sz33, sy33, sz34, sy34, sz35, sy35, sz36, sy36, sz37, sy37, sz38, sy38, sz39, sy39, sz40, sy40, sPar3_, iZp_, cIsE_, zipOf, isL, opRepT, opIsB, fMax2, fMin2, mCountB, mIndexB, bools0, bools1, List.getElem?_cons_zero, List.getElem?_cons_succ, List.map_cons, List.map_nil, List.length_cons, List.length_nil, List.cons_append, List.nil_append, List.replicate_succ, List.replicate_zero, List.set_cons_zero, List.set_cons_succ, Nat.zero_add, Nat.reduceAdd, Nat.reduceSub, ↓reduceIte, reduceCtorEq, String.reduceBEq, kb_NoneType_int, kb_NoneType_bool, kb_NoneType_str, kb_NoneType_tuple, kb_NoneType_list, kb_NoneType_dict, kb_bool_int, kb_bool_bool, kb_bool_str, kb_bool_tuple, kb_bool_list, kb_bool_dict, kb_int_int, kb_int_bool, kb_int_str, kb_int_tuple, kb_int_list, kb_int_dict, kb_str_int, kb_str_bool, kb_str_str, kb_str_tuple, kb_str_list, kb_str_dict, kb_list_int, kb_list_bool, kb_list_str, kb_list_tuple, kb_list_list, kb_list_dict, kb_tuple_int, kb_tuple_bool, kb_tuple_str, kb_tuple_tuple, kb_tuple_list, kb_tuple_dict, kb_dict_int, kb_dict_bool, kb_dict_str, kb_dict_tuple, kb_dict_list, kb_dict_dict, String.reduceEq, Int.reduceLT, Int.reduceLE, Int.reduceNeg, Int.reducePow, Nat.reducePow, Int.reduceToNat, Nat.reduceLT, Nat.reduceLeDiff, decide_true, decide_false, and_self, and_true, true_and, or_true, true_or, or_false, false_or, Bool.not_true, Bool.not_false, Bool.true_eq_false, Bool.false_eq_true, Option.map_some, Option.map_none, e4, ix0, ix11, p1, c1, p2, c2', Bool.true_and, Bool.false_and, List.take_length]
  · have c1' := Bool.eq_false_iff.mpr c1
    simp only [F_is_kit, C_is_kit, kitD, cV_, cK_, cBin_, cCall_, cCons_, cNil_, cH_, cD_, cA_, cT_, cIf_, cAndT_, cOrT_, cNotT_, cAndV_, cOrV_, cNotV_, cChain_, cSl_, cPart_, cNoPart_, cMt_, cIsi_, cNeg_, cFn_, sNil_, sCons_, sIf_, sSet_, sPar_, sExpr_, sRet_, sRetN_, sRaise_, sBrk_, sCnt_, sStore_, fnOf_, iAny_, iR1_, iR2_, iEn_, gN_, gT_, gsN_, gsC_, stepS_, cYes_, lcF_, bT, iP, isTy, tyName, opTup, opLst, opAdd, opII, cDivB, opMul, opOrd, opEq, kD_nn, kD_ii, kD_bb, kD_ss, kD_ni, kD_nb, kD_ns, kD_in, kD_bn, kD_sn, kD_is, kD_si, kD_bs, kD_sb, kD_tuple1, kD_tuple2, kD_list1, kD_list2, kD_ib, kD_bi, opIsN, opIx, opSl, one, fLen, fInt, fAbs, fTup, fList, see, hold, toD, adopt, Rs.bind, Rs.thenS, opStore, expo, itmOf, wipeR, mAppend, mExtend, sAsg_, List.mapM_cons, List.mapM_nil, Option.bind_eq_bind, Option.bind_some, Option.pure_def, List.append_assoc, sz0, sy0, sz1, sy1, sz2, sy2, sz3, sy3, sz4, sy4, sz5, sy5, sz6, sy6, sz7, sy7, sz8, sy8, sz9, sy9, sz10, sy10, sz11, sy11, sz12, sy12, sz13, sy13, sz14, sy14, sz15, sy15, sz16, sy16, sz17, sy17, sz18, sy18, sz19, sy19, sz20, sy20, sz21, sy21, sz22, sy22, sz23, sy23, sz24, sy24, sz25, sy25, sz26, sy26, sz27, sy27, sz28, sy28, sz29, sy29, sz30, sy30, sz31, sy31, sz32, sy32, sz33, sy33, sz34, sy34, sz35, sy35, sz36, sy36, sz37, sy37, sz38, sy38, sz39, sy39, sz40, sy40, sPar3_, iZp_, cIsE_, zipOf, isL, opRepT, opIsB, fMax2, fMin2, mCountB, mIndexB, bools0, bools1, List.getElem?_cons_zero, List.getElem?_cons_succ, List.map_cons, List.map_nil, List.length_cons, List.length_nil, List.cons_append, List.nil_append, List.replicate_succ, List.replicate_zero, List.set_cons_zero, List.set_cons_succ, Nat.zero_add, Nat.reduceAdd, Nat.reduceSub, ↓reduceIte, reduceCtorEq, String.reduceBEq, kb_NoneType_int, kb_NoneType_bool, kb_NoneType_str, kb_NoneType_tuple, kb_NoneType_list, kb_NoneType_dict, kb_bool_int, kb_bool_bool, kb_bool_str, kb_bool_tuple, kb_bool_list, kb_bool_dict, kb_int_int, kb_int_bool, kb_int_str, kb_int_tuple, kb_int_list, kb_int_dict, kb_str_int, kb_str_bool, kb_str_str, kb_str_tuple, kb_str_list, kb_str_dict, kb_list_int, kb_list_bool, kb_list_str, kb_list_tuple, kb_list_list, kb_list_dict, kb_tuple_int, kb_tuple_bool, kb_tuple_str, kb_tuple_tuple, kb_tuple_list, kb_tuple_dict, kb_dict_int, kb_dict_bool, kb_dict_str, kb_dict_tuple, kb_dict_list, kb_dict_dict, String.reduceEq, Int.reduceLT, Int.reduceLE, Int.reduceNeg, Int.reducePow, Nat.reducePow, Int.reduceToNat, Nat.reduceLT, Nat.reduceLeDiff, decide_true, decide_false, and_self, and_true, true_and, or_true, true_or, or_false, false_or, Bool.not_true, Bool.not_false, Bool.true_eq_false, Bool.false_eq_true, Option.map_some, Option.map_none, e4, ix0, ix11, p1, c1', Bool.true_and, Bool.false_and, List.take_length]
end L28
set_option maxRecDepth 100000
set_option maxHeartbeats 1000000
namespace L28
open PySem PySem.Spec PyProof.Rows L2 Em
/-! ### sums along a stretch -/
def S (seg : List Int) (loss : Int) (j : Nat) : Int := ((seg.take j).map (· + loss)).sum
theorem S_zero (seg : List Int) (loss : Int) : S seg loss 0 = 0 := rfl
theorem S_succ {seg : List Int} {loss : Int} {j : Nat} {x : Int} (h : seg[j]? = some x) : S seg loss (j + 1) = S seg loss j + x + loss := by
  unfold S
  rw [List.take_add_one, h]
  simp
  omega
def sumsD (seg : List Int) (loss : Int) (k : Nat) : List D := ((List.range (k + 1)).map (S seg loss)).map .int
theorem sumsD_succ (seg : List Int) (loss : Int) (k : Nat) : sumsD seg loss (k + 1) = sumsD seg loss k ++ [.int (S seg loss (k + 1))] := by
  unfold sumsD
  rw [List.range_succ (n := k + 1), List.map_append, List.map_append]
  rfl
theorem sumsD_last (seg : List Int) (loss : Int) (k : Nat) : L2.atI (sumsD seg loss k) (-1) = some (.int (S seg loss k)) := by
  unfold sumsD
  rw [List.range_succ, List.map_append, List.map_append]
  exact atI_lastD
theorem cutD_mid {α : Type} (xs : List α) (i j : Nat) (h1 : i ≤ j) (h2 : j ≤ xs.length) : Em.cutD xs (some (i : Int)) (some (j : Int)) = (xs.drop i).take (j - i) := by
  unfold Em.cutD
  rw [HT.sIx_nat, HT.sIx_nat, Nat.min_eq_left (by omega), Nat.min_eq_left (by omega)]
def bodyS : SC := (sExpr (cMt "list" mAppend (cV 4) (cCons (cD (cBin opAdd (cH (cBin opAdd (cH (cBin opIx (cV 4) (cH (cNeg (cK (.int 1)))))) (cV 5))) (cV 1))) cNil)))
theorem sums_ok (rs : List Int) (loss : Int) (i j : Nat) (h1 : i ≤ j) (h2 : j ≤ rs.length) (h3 : rs.length ≤ 1000) (μ : Mem) :
    F_sums_on [.d (.tuple (rs.map .int)), .d (.int loss), .d (.int (i : Int)), .d (.int (j : Int))] μ = .ok (.fl (sumsD ((rs.drop i).take (j - i)) loss (j - i))) μ := by
  have hsl : ((rs.drop i).take (j - i)).length = j - i := by simp; omega
  generalize hseg : (rs.drop i).take (j - i) = seg at hsl ⊢
  have hit : Em.cutD (rs.map PyData.int) (some (i : Int)) (some (j : Int)) = seg.map .int := by
    rw [cutD_mid _ _ _ h1 (by simpa using h2), ← List.map_drop, ← List.map_take, hseg]
  obtain ⟨ρ', μ', ef, ⟨z, rfl⟩, rfl⟩ := for_inv (b := stepS (gN 5) bodyS) (itm_tuple (seg.map .int)) (fun k ρ μ' => (∃ z, ρ = [some (.d (.tuple (rs.map .int))), some (.d (.int loss)), some (.d (.int (i : Int))), some (.d (.int (j : Int))), some (.c μ.length), z]) ∧ μ' = μ ++ [.lst (sumsD seg loss k)]) (fun k d ρ μ' hd hI => by
    obtain ⟨⟨z, rfl⟩, rfl⟩ := hI
    rw [List.getElem?_map] at hd
    cases hx : seg[k]? with
    | none => rw [hx] at hd; cases hd
    | some x =>
      rw [hx] at hd
      cases hd
      have hk : k < seg.length := (List.getElem?_eq_some_iff.mp hx).1
      have hg : (μ ++ [Cell.lst (sumsD seg loss k)])[μ.length]? = some (.lst (sumsD seg loss k)) := by simp
      have hs : (μ ++ [Cell.lst (sumsD seg loss k)]).set μ.length (.lst (sumsD seg loss k ++ [.int (S seg loss k + x + loss)])) = μ ++ [.lst (sumsD seg loss (k + 1))] := by
        rw [sumsD_succ, S_succ hx]; simp
      have hsz : (sumsD seg loss k).length < sizeLine := Nat.lt_of_lt_of_le (by simp [sumsD]; omega : (sumsD seg loss k).length < 1002) (nat_sizeLine (by omega))
      refine ⟨_, _, ?_, ⟨some (.d (.int x)), rfl⟩, rfl⟩
      simp only [bodyS, cV_, cK_, cBin_, cCall_, cCons_, cNil_, cH_, cD_, cA_, cT_, cIf_, cAndT_, cOrT_, cNotT_, cAndV_, cOrV_, cNotV_, cChain_, cSl_, cPart_, cNoPart_, cMt_, cIsi_, cNeg_, cFn_, sNil_, sCons_, sIf_, sSet_, sPar_, sExpr_, sRet_, sRetN_, sRaise_, sBrk_, sCnt_, sStore_, fnOf_, iAny_, iR1_, iR2_, iEn_, gN_, gT_, gsN_, gsC_, stepS_, cYes_, lcF_, bT, iP, isTy, tyName, opTup, opLst, opAdd, opII, cDivB, opMul, opOrd, opEq, kD_nn, kD_ii, kD_bb, kD_ss, kD_ni, kD_nb, kD_ns, kD_in, kD_bn, kD_sn, kD_is, kD_si, kD_bs, kD_sb, kD_tuple1, kD_tuple2, kD_list1, kD_list2, kD_ib, kD_bi, opIsN, opIx, opSl, one, fLen, fInt, fAbs, fTup, fList, see, hold, toD, adopt, Rs.bind, Rs.thenS, opStore, expo, itmOf, wipeR, mAppend, mExtend, sAsg_, List.mapM_cons, List.mapM_nil, Option.bind_eq_bind, Option.bind_some, Option.pure_def, List.append_assoc, sz0, sy0, sz1, sy1, sz2, sy2, sz3, sy3, sz4, sy4, sz5, sy5, sz6, sy6, sz7, sy7, sz8, sy8, sz9, sy9, sz10, sy10, sz11, sy11, sz12, sy12, sz13, sy13, sz14, sy14, sz15, sy15, sz16, sy16, sz17, sy17, sz18, sy18, sz19, sy19, sz20, sy20, sz21, sy21, sz22, sy22, sz23, sy23, sz24, sy24, sz25, sy25, sz26, sy26, sz27, sy27, sz28, sy28, sz29, sy29, sz30, sy30, sz31, sy31, sz32, sy32, sz33, sy33, sz34, sy34, sz35, sy35, sz36, sy36, sz37, sy37, sz38, sy38, sz39, sy39, sz40, sy40, sPar3_, iZp_, cIsE_, zipOf, isL, opRepT, opIsB, fMax2, fMin2, mCountB, mIndexB, bools0, bools1, List.getElem?_cons_zero, List.getElem?_cons_succ, List.map_cons, List.map_nil, List.length_cons, List.length_nil, List.cons_append, List.nil_append, List.replicate_succ, List.replicate_zero, List.set_cons_zero, List.set_cons_succ, Nat.zero_add, Nat.reduceAdd, Nat.reduceSub, ↓reduceIte, reduceCtorEq, String.reduceBEq, kb_NoneType_int, kb_NoneType_bool, kb_NoneType_str, kb_NoneType_tuple, kb_NoneType_list, kb_NoneType_dict, kb_bool_int, kb_bool_bool, kb_bool_str, kb_bool_tuple, kb_bool_list, kb_bool_dict, kb_int_int, kb_int_bool, kb_int_str, kb_int_tuple, kb_int_list, kb_int_dict, kb_str_int, kb_str_bool, kb_str_str, kb_str_tuple, kb_str_list, kb_str_dict, kb_list_int, kb_list_bool, kb_list_str, kb_list_tuple, kb_list_list, kb_list_dict, kb_tuple_int, kb_tuple_bool, kb_tuple_str, kb_tuple_tuple, kb_tuple_list, kb_tuple_dict, kb_dict_int, kb_dict_bool, kb_dict_str, kb_dict_tuple, kb_dict_list, kb_dict_dict, String.reduceEq, Int.reduceLT, Int.reduceLE, Int.reduceNeg, Int.reducePow, Nat.reducePow, Int.reduceToNat, Nat.reduceLT, Nat.reduceLeDiff, decide_true, decide_false, and_self, and_true, true_and, or_true, true_or, or_false, false_or, Bool.not_true, Bool.not_false, Bool.true_eq_false, Bool.false_eq_true, Option.map_some, Option.map_none, hg, sumsD_last, if_pos hsz, hs]) (ρ := [some (.d (.tuple (rs.map .int))), some (.d (.int loss)), some (.d (.int (i : Int))), some (.d (.int (j : Int))), some (.c μ.length), none]) (μ := μ ++ [.lst (sumsD seg loss 0)]) ⟨⟨none, rfl⟩, rfl⟩
  rw [List.length_map, hsl] at ef
  have hfor : sFor (iAny (cH (cSl (cV 0) (cPart (cV 2)) (cPart (cV 3))))) (gN 5) bodyS [some (.d (.tuple (rs.map .int))), some (.d (.int loss)), some (.d (.int (i : Int))), some (.d (.int (j : Int))), some (.c μ.length), none] (μ ++ [.lst [.int 0]]) = .nx [some (.d (.tuple (rs.map .int))), some (.d (.int loss)), some (.d (.int (i : Int))), some (.d (.int (j : Int))), some (.c μ.length), z] (μ ++ [.lst (sumsD seg loss (j - i))]) := by
    rw [sFor_eq (itm_tuple (seg.map .int)) (μ1 := μ ++ [.lst [.int 0]]) (by simp only [cV_, cK_, cBin_, cCall_, cCons_, cNil_, cH_, cD_, cA_, cT_, cIf_, cAndT_, cOrT_, cNotT_, cAndV_, cOrV_, cNotV_, cChain_, cSl_, cPart_, cNoPart_, cMt_, cIsi_, cNeg_, cFn_, sNil_, sCons_, sIf_, sSet_, sPar_, sExpr_, sRet_, sRetN_, sRaise_, sBrk_, sCnt_, sStore_, fnOf_, iAny_, iR1_, iR2_, iEn_, gN_, gT_, gsN_, gsC_, stepS_, cYes_, lcF_, bT, iP, isTy, tyName, opTup, opLst, opAdd, opII, cDivB, opMul, opOrd, opEq, kD_nn, kD_ii, kD_bb, kD_ss, kD_ni, kD_nb, kD_ns, kD_in, kD_bn, kD_sn, kD_is, kD_si, kD_bs, kD_sb, kD_tuple1, kD_tuple2, kD_list1, kD_list2, kD_ib, kD_bi, opIsN, opIx, opSl, one, fLen, fInt, fAbs, fTup, fList, see, hold, toD, adopt, Rs.bind, Rs.thenS, opStore, expo, itmOf, wipeR, mAppend, mExtend, sAsg_, List.mapM_cons, List.mapM_nil, Option.bind_eq_bind, Option.bind_some, Option.pure_def, List.append_assoc, sz0, sy0, sz1, sy1, sz2, sy2, sz3, sy3, sz4, sy4, sz5, sy5, sz6, sy6, sz7, sy7, sz8, sy8, sz9, sy9, sz10, sy10, sz11, sy11, sz12, sy12, sz13, sy13, sz14, sy14, sz15, sy15, sz16, sy16, sz17, sy17, sz18, sy18, sz19, sy19, sz20, sy20, sz21, sy21, sz22, sy22, sz23, sy23, sz24, sy24, sz25, sy25, sz26, sy26, sz27, sy27, sz28, sy28, sz29, sy29, sz30, sy30, sz31, sy31, sz32, sy32, sz33, sy33, sz34, sy34, sz35, sy35, sz36, sy36, sz37, sy37, sz38, sy38, sz39, sy39, sz40, sy40, sPar3_, iZp_, cIsE_, zipOf, isL, opRepT, opIsB, fMax2, fMin2, mCountB, mIndexB, bools0, bools1, List.getElem?_cons_zero, List.getElem?_cons_succ, List.map_cons, List.map_nil, List.length_cons, List.length_nil, List.cons_append, List.nil_append, List.replicate_succ, List.replicate_zero, List.set_cons_zero, List.set_cons_succ, Nat.zero_add, Nat.reduceAdd, Nat.reduceSub, ↓reduceIte, reduceCtorEq, String.reduceBEq, kb_NoneType_int, kb_NoneType_bool, kb_NoneType_str, kb_NoneType_tuple, kb_NoneType_list, kb_NoneType_dict, kb_bool_int, kb_bool_bool, kb_bool_str, kb_bool_tuple, kb_bool_list, kb_bool_dict, kb_int_int, kb_int_bool, kb_int_str, kb_int_tuple, kb_int_list, kb_int_dict, kb_str_int, kb_str_bool, kb_str_str, kb_str_tuple, kb_str_list, kb_str_dict, kb_list_int, kb_list_bool, kb_list_str, kb_list_tuple, kb_list_list, kb_list_dict, kb_tuple_int, kb_tuple_bool, kb_tuple_str, kb_tuple_tuple, kb_tuple_list, kb_tuple_dict, kb_dict_int, kb_dict_bool, kb_dict_str, kb_dict_tuple, kb_dict_list, kb_dict_dict, String.reduceEq, Int.reduceLT, Int.reduceLE, Int.reduceNeg, Int.reducePow, Nat.reducePow, Int.reduceToNat, Nat.reduceLT, Nat.reduceLeDiff, decide_true, decide_false, and_self, and_true, true_and, or_true, true_or, or_false, false_or, Bool.not_true, Bool.not_false, Bool.true_eq_false, Bool.false_eq_true, Option.map_some, Option.map_none, hit]), List.length_map, hsl]
    exact ef
  have hb : C_sums_on = (sCons (sSet 4 (cA (cCall opLst (cCons (cK (.int 0)) cNil)))) (sCons (sFor (iAny (cH (cSl (cV 0) (cPart (cV 2)) (cPart (cV 3))))) (gN 5) bodyS) (sRet (cV 4)))) := rfl
  have hg : (μ ++ [Cell.lst (sumsD seg loss (j - i))])[μ.length]? = some (.lst (sumsD seg loss (j - i))) := by simp
  have hnl : ¬ (μ.length < μ.length) := by omega
  simp only [F_sums_on, hb, cV_, cK_, cBin_, cCall_, cCons_, cNil_, cH_, cD_, cA_, cT_, cIf_, cAndT_, cOrT_, cNotT_, cAndV_, cOrV_, cNotV_, cChain_, cSl_, cPart_, cNoPart_, cMt_, cIsi_, cNeg_, cFn_, sNil_, sCons_, sIf_, sSet_, sPar_, sExpr_, sRet_, sRetN_, sRaise_, sBrk_, sCnt_, sStore_, fnOf_, iAny_, iR1_, iR2_, iEn_, gN_, gT_, gsN_, gsC_, stepS_, cYes_, lcF_, bT, iP, isTy, tyName, opTup, opLst, opAdd, opII, cDivB, opMul, opOrd, opEq, kD_nn, kD_ii, kD_bb, kD_ss, kD_ni, kD_nb, kD_ns, kD_in, kD_bn, kD_sn, kD_is, kD_si, kD_bs, kD_sb, kD_tuple1, kD_tuple2, kD_list1, kD_list2, kD_ib, kD_bi, opIsN, opIx, opSl, one, fLen, fInt, fAbs, fTup, fList, see, hold, toD, adopt, Rs.bind, Rs.thenS, opStore, expo, itmOf, wipeR, mAppend, mExtend, sAsg_, List.mapM_cons, List.mapM_nil, Option.bind_eq_bind, Option.bind_some, Option.pure_def, List.append_assoc, sz0, sy0, sz1, sy1, sz2, sy2, sz3, sy3, sz4, sy4, sz5, sy5, sz6, sy6, sz7, sy7, sz8, sy8, sz9, sy9, sz10, sy10, sz11, sy11, sz12, sy12, sz13, sy13, sz14, sy14, sz15, sy15, sz16, sy16, sz17, sy17, sz18, sy18, sz19, sy19, sz20, sy20, sz21, sy21, sz22, sy22, sz23, sy23, sz24, sy24, sz25, sy25, sz26, sy26, sz27, sy27, sz28, sy28, sz29, sy29, sz30, sy30, sz31, sy31, sz32, sy32, sz33, sy33, sz34, sy34, sz35, sy35, sz36, sy36, sz37, sy37, sz38, sy38, sz39, sy39, sz40, sy40, sPar3_, iZp_, cIsE_, zipOf, isL, opRepT, opIsB, fMax2, fMin2, mCountB, mIndexB, bools0, bools1, List.getElem?_cons_zero, List.getElem?_cons_succ, List.map_cons, List.map_nil, List.length_cons, List.length_nil, List.cons_append, List.nil_append, List.replicate_succ, List.replicate_zero, List.set_cons_zero, List.set_cons_succ, Nat.zero_add, Nat.reduceAdd, Nat.reduceSub, ↓reduceIte, reduceCtorEq, String.reduceBEq, kb_NoneType_int, kb_NoneType_bool, kb_NoneType_str, kb_NoneType_tuple, kb_NoneType_list, kb_NoneType_dict, kb_bool_int, kb_bool_bool, kb_bool_str, kb_bool_tuple, kb_bool_list, kb_bool_dict, kb_int_int, kb_int_bool, kb_int_str, kb_int_tuple, kb_int_list, kb_int_dict, kb_str_int, kb_str_bool, kb_str_str, kb_str_tuple, kb_str_list, kb_str_dict, kb_list_int, kb_list_bool, kb_list_str, kb_list_tuple, kb_list_list, kb_list_dict, kb_tuple_int, kb_tuple_bool, kb_tuple_str, kb_tuple_tuple, kb_tuple_list, kb_tuple_dict, kb_dict_int, kb_dict_bool, kb_dict_str, kb_dict_tuple, kb_dict_list, kb_dict_dict, String.reduceEq, Int.reduceLT, Int.reduceLE, Int.reduceNeg, Int.reducePow, Nat.reducePow, Int.reduceToNat, Nat.reduceLT, Nat.reduceLeDiff, decide_true, decide_false, and_self, and_true, true_and, or_true, true_or, or_false, false_or, Bool.not_true, Bool.not_false, Bool.true_eq_false, Bool.false_eq_true, Option.map_some, Option.map_none, hfor, hg, if_neg hnl, List.take_left]
/-! greatest and least of them -/
def mx (seg : List Int) (loss : Int) (k : Nat) : Int := ((List.range k).map fun j => S seg loss (j + 1)).foldl max 0
def mn (seg : List Int) (loss : Int) (k : Nat) : Int := ((List.range k).map fun j => S seg loss (j + 1)).foldl min 0
theorem mx_succ (seg : List Int) (loss : Int) (k : Nat) : mx seg loss (k + 1) = max (mx seg loss k) (S seg loss (k + 1)) := by
  unfold mx
  rw [List.range_succ, List.map_append, List.foldl_append]
  rfl
theorem mn_succ (seg : List Int) (loss : Int) (k : Nat) : mn seg loss (k + 1) = min (mn seg loss k) (S seg loss (k + 1)) := by
  unfold mn
  rw [List.range_succ, List.map_append, List.foldl_append]
  rfl
theorem sums_ints (seg : List Int) (loss : Int) (k : Nat) : intsOf (sumsD seg loss k) = some (0 :: (List.range k).map fun j => S seg loss (j + 1)) := by
  unfold sumsD
  rw [intsOf_map, List.range_succ_eq_map, List.map_cons, List.map_map, S_zero]
  rfl
def strD (g b : Int) (seg : List Int) (loss : Int) (k : Nat) (due : Int) : D :=
  if max (mx seg loss k) (S seg loss k + due) ≤ min g (b + mn seg loss k) then .tuple [.int (max (mx seg loss k) (S seg loss k + due)), .int (min g (b + mn seg loss k))] else .none
theorem max2 (i j : Int) : (if j > i then j else i) = max i j := by
  by_cases h : j > i
  · rw [if_pos h, Int.max_eq_right (by omega)]
  · rw [if_neg h, Int.max_eq_left (by omega)]
theorem min2 (i j : Int) : (if j < i then j else i) = min i j := by
  by_cases h : j < i
  · rw [if_pos h, Int.min_eq_right (by omega)]
  · rw [if_neg h, Int.min_eq_left (by omega)]
theorem raw_loss_int (ls gs : List Int) (a b F N : Int) (x : Int) (hn : 0 < N) (hn2 : N < 1073741824) (hx : L2.atI (ls.map PyData.int) ((F + N - 1) / N) = some (.int x)) (μ : Mem) : F_raw_loss [.d (kitD ls gs a b), .d (.int F), .d (.int N)] μ = .ok (.d (.int x)) μ := by
  have cd : decide (0 < N ∧ N < 1073741824) = true := decide_eq_true ⟨hn, hn2⟩
  simp only [F_raw_loss, C_raw_loss, kitD, cV_, cK_, cBin_, cCall_, cCons_, cNil_, cH_, cD_, cA_, cT_, cIf_, cAndT_, cOrT_, cNotT_, cAndV_, cOrV_, cNotV_, cChain_, cSl_, cPart_, cNoPart_, cMt_, cIsi_, cNeg_, cFn_, sNil_, sCons_, sIf_, sSet_, sPar_, sExpr_, sRet_, sRetN_, sRaise_, sBrk_, sCnt_, sStore_, fnOf_, iAny_, iR1_, iR2_, iEn_, gN_, gT_, gsN_, gsC_, stepS_, cYes_, lcF_, bT, iP, isTy, tyName, opTup, opLst, opAdd, opII, cDivB, opMul, opOrd, opEq, kD_nn, kD_ii, kD_bb, kD_ss, kD_ni, kD_nb, kD_ns, kD_in, kD_bn, kD_sn, kD_is, kD_si, kD_bs, kD_sb, kD_tuple1, kD_tuple2, kD_list1, kD_list2, kD_ib, kD_bi, opIsN, opIx, opSl, one, fLen, fInt, fAbs, fTup, fList, see, hold, toD, adopt, Rs.bind, Rs.thenS, opStore, expo, itmOf, wipeR, mAppend, mExtend, sAsg_, List.mapM_cons, List.mapM_nil, Option.bind_eq_bind, Option.bind_some, Option.pure_def, List.append_assoc, sz0, sy0, sz1, sy1, sz2, sy2, sz3, sy3, sz4, sy4, sz5, sy5, sz6, sy6, sz7, sy7, sz8, sy8, sz9, sy9, sz10, sy10, sz11, sy11, sz12, sy12, sz13, sy13, sz14, sy14, sz15, sy15, sz16, sy16, sz17, sy17, sz18, sy18, sz19, sy19, sz20, sy20, sz21, sy21, sz22, sy22, sz23, sy23, sz24, sy24, sz25, sy25, sz26, sy26, sz27, sy27, sz28, sy28, sz29, sy29, sz30, sy30, sz31, sy31, sz32, sy32, sz33, sy33, sz34, sy34, sz35, sy35, sz36, sy36, sz37, sy37, sz38, sy38, sz39, sy39, sz40, sy40, sPar3_, iZp_, cIsE_, zipOf, isL, opRepT, opIsB, fMax2, fMin2, mCountB, mIndexB, bools0, bools1, List.getElem?_cons_zero, List.getElem?_cons_succ, List.map_cons, List.map_nil, List.length_cons, List.length_nil, List.cons_append, List.nil_append, List.replicate_succ, List.replicate_zero, List.set_cons_zero, List.set_cons_succ, Nat.zero_add, Nat.reduceAdd, Nat.reduceSub, ↓reduceIte, reduceCtorEq, String.reduceBEq, kb_NoneType_int, kb_NoneType_bool, kb_NoneType_str, kb_NoneType_tuple, kb_NoneType_list, kb_NoneType_dict, kb_bool_int, kb_bool_bool, kb_bool_str, kb_bool_tuple, kb_bool_list, kb_bool_dict, kb_int_int, kb_int_bool, kb_int_str, kb_int_tuple, kb_int_list, kb_int_dict, kb_str_int, kb_str_bool, kb_str_str, kb_str_tuple, kb_str_list, kb_str_dict, kb_list_int, kb_list_bool, kb_list_str, kb_list_tuple, kb_list_list, kb_list_dict, kb_tuple_int, kb_tuple_bool, kb_tuple_str, kb_tuple_tuple, kb_tuple_list, kb_tuple_dict, kb_dict_int, kb_dict_bool, kb_dict_str, kb_dict_tuple, kb_dict_list, kb_dict_dict, String.reduceEq, Int.reduceLT, Int.reduceLE, Int.reduceNeg, Int.reducePow, Nat.reducePow, Int.reduceToNat, Nat.reduceLT, Nat.reduceLeDiff, decide_true, decide_false, and_self, and_true, true_and, or_true, true_or, or_false, false_or, Bool.not_true, Bool.not_false, Bool.true_eq_false, Bool.false_eq_true, Option.map_some, Option.map_none, ix0, cd, hx, List.take_length]
theorem raw_loss_ok (ls gs : List Int) (a b : Int) (f n : Nat) (x : Int) (hn : 0 < n) (hn2 : n < 100) (h : ls[(f + n - 1) / n]? = some x) (μ : Mem) : F_raw_loss [.d (kitD ls gs a b), .d (.int (f : Int)), .d (.int (n : Int))] μ = .ok (.d (.int x)) μ := by
  refine raw_loss_int ls gs a b _ _ x (by omega) (by omega) ?_ μ
  have e : ((f : Int) + (n : Int) - 1) / (n : Int) = (((f + n - 1) / n : Nat) : Int) := by
    have e0 : (f : Int) + (n : Int) - 1 = ((f + n - 1 : Nat) : Int) := by omega
    rw [e0]
    exact (Int.natCast_ediv _ _).symm
  rw [e]
  exact atI_ints h
theorem raw_stretch_ok (ls gs rs : List Int) (a b : Int) (f i j : Nat) (due lo g : Int) (h1 : i ≤ j) (h2 : j ≤ rs.length) (h3 : rs.length ≤ 1000) (hl : ls[f]? = some lo) (hg : gs[f]? = some g) (μ : Mem) :
    F_raw_stretch [.d (kitD ls gs a b), .d (.tuple (rs.map .int)), .d (.int (f : Int)), .d (.int 1), .d (.int (i : Int)), .d (.int (j : Int)), .d (.int due)] μ = .ok (.d (strD g b ((rs.drop i).take (j - i)) lo (j - i) due)) μ := by
  have e1 := fun μ => raw_loss_ok ls gs a b f 1 lo (by omega) (by omega) (by simpa using hl) μ
  have e2 := fun μ => sums_ok rs lo i j h1 h2 h3 μ
  generalize (rs.drop i).take (j - i) = seg at e2 ⊢
  have hi := sums_ints seg lo (j - i)
  have hlst := sumsD_last seg lo (j - i)
  have hgx := atI_ints hg
  have m1 : ((List.range (j - i)).map fun j => S seg lo (j + 1)).foldl max 0 = mx seg lo (j - i) := rfl
  have m2 : ((List.range (j - i)).map fun j => S seg lo (j + 1)).foldl min 0 = mn seg lo (j - i) := rfl
  unfold kitD at e1 ⊢
  have e1' : ∀ μ, F_raw_loss [.d (.tuple [.tuple (ls.map .int), .tuple (gs.map .int), .int a, .int b]), .d (.int (f : Int)), .d (.int 1)] μ = .ok (.d (.int lo)) μ := e1
  unfold strD
  by_cases hc : decide (max (mx seg lo (j - i)) (S seg lo (j - i) + due) ≤ min g (b + mn seg lo (j - i))) = true
  · rw [if_pos (of_decide_eq_true hc)]
    simp only [F_raw_stretch, C_raw_stretch, cV_, cK_, cBin_, cCall_, cCons_, cNil_, cH_, cD_, cA_, cT_, cIf_, cAndT_, cOrT_, cNotT_, cAndV_, cOrV_, cNotV_, cChain_, cSl_, cPart_, cNoPart_, cMt_, cIsi_, cNeg_, cFn_, sNil_, sCons_, sIf_, sSet_, sPar_, sExpr_, sRet_, sRetN_, sRaise_, sBrk_, sCnt_, sStore_, fnOf_, iAny_, iR1_, iR2_, iEn_, gN_, gT_, gsN_, gsC_, stepS_, cYes_, lcF_, bT, iP, isTy, tyName, opTup, opLst, opAdd, opII, cDivB, opMul, opOrd, opEq, kD_nn, kD_ii, kD_bb, kD_ss, kD_ni, kD_nb, kD_ns, kD_in, kD_bn, kD_sn, kD_is, kD_si, kD_bs, kD_sb, kD_tuple1, kD_tuple2, kD_list1, kD_list2, kD_ib, kD_bi, opIsN, opIx, opSl, one, fLen, fInt, fAbs, fTup, fList, see, hold, toD, adopt, Rs.bind, Rs.thenS, opStore, expo, itmOf, wipeR, mAppend, mExtend, sAsg_, List.mapM_cons, List.mapM_nil, Option.bind_eq_bind, Option.bind_some, Option.pure_def, List.append_assoc, sz0, sy0, sz1, sy1, sz2, sy2, sz3, sy3, sz4, sy4, sz5, sy5, sz6, sy6, sz7, sy7, sz8, sy8, sz9, sy9, sz10, sy10, sz11, sy11, sz12, sy12, sz13, sy13, sz14, sy14, sz15, sy15, sz16, sy16, sz17, sy17, sz18, sy18, sz19, sy19, sz20, sy20, sz21, sy21, sz22, sy22, sz23, sy23, sz24, sy24, sz25, sy25, sz26, sy26, sz27, sy27, sz28, sy28, sz29, sy29, sz30, sy30, sz31, sy31, sz32, sy32, sz33, sy33, sz34, sy34, sz35, sy35, sz36, sy36, sz37, sy37, sz38, sy38, sz39, sy39, sz40, sy40, sPar3_, iZp_, cIsE_, zipOf, isL, opRepT, opIsB, fMax2, fMin2, mCountB, mIndexB, bools0, bools1, List.getElem?_cons_zero, List.getElem?_cons_succ, List.map_cons, List.map_nil, List.length_cons, List.length_nil, List.cons_append, List.nil_append, List.replicate_succ, List.replicate_zero, List.set_cons_zero, List.set_cons_succ, Nat.zero_add, Nat.reduceAdd, Nat.reduceSub, ↓reduceIte, reduceCtorEq, String.reduceBEq, kb_NoneType_int, kb_NoneType_bool, kb_NoneType_str, kb_NoneType_tuple, kb_NoneType_list, kb_NoneType_dict, kb_bool_int, kb_bool_bool, kb_bool_str, kb_bool_tuple, kb_bool_list, kb_bool_dict, kb_int_int, kb_int_bool, kb_int_str, kb_int_tuple, kb_int_list, kb_int_dict, kb_str_int, kb_str_bool, kb_str_str, kb_str_tuple, kb_str_list, kb_str_dict, kb_list_int, kb_list_bool, kb_list_str, kb_list_tuple, kb_list_list, kb_list_dict, kb_tuple_int, kb_tuple_bool, kb_tuple_str, kb_tuple_tuple, kb_tuple_list, kb_tuple_dict, kb_dict_int, kb_dict_bool, kb_dict_str, kb_dict_tuple, kb_dict_list, kb_dict_dict, String.reduceEq, Int.reduceLT, Int.reduceLE, Int.reduceNeg, Int.reducePow, Nat.reducePow, Int.reduceToNat, Nat.reduceLT, Nat.reduceLeDiff, decide_true, decide_false, and_self, and_true, true_and, or_true, true_or, or_false, false_or, Bool.not_true, Bool.not_false, Bool.true_eq_false, Bool.false_eq_true, Option.map_some, Option.map_none, e1', e2, fBest, hi, hlst, ix11, ix43, hgx, m1, m2, max2, min2, hc, List.take_length]
  · have hc' := Bool.eq_false_iff.mpr hc
    rw [if_neg (of_decide_eq_false hc')]
    simp only [F_raw_stretch, C_raw_stretch, cV_, cK_, cBin_, cCall_, cCons_, cNil_, cH_, cD_, cA_, cT_, cIf_, cAndT_, cOrT_, cNotT_, cAndV_, cOrV_, cNotV_, cChain_, cSl_, cPart_, cNoPart_, cMt_, cIsi_, cNeg_, cFn_, sNil_, sCons_, sIf_, sSet_, sPar_, sExpr_, sRet_, sRetN_, sRaise_, sBrk_, sCnt_, sStore_, fnOf_, iAny_, iR1_, iR2_, iEn_, gN_, gT_, gsN_, gsC_, stepS_, cYes_, lcF_, bT, iP, isTy, tyName, opTup, opLst, opAdd, opII, cDivB, opMul, opOrd, opEq, kD_nn, kD_ii, kD_bb, kD_ss, kD_ni, kD_nb, kD_ns, kD_in, kD_bn, kD_sn, kD_is, kD_si, kD_bs, kD_sb, kD_tuple1, kD_tuple2, kD_list1, kD_list2, kD_ib, kD_bi, opIsN, opIx, opSl, one, fLen, fInt, fAbs, fTup, fList, see, hold, toD, adopt, Rs.bind, Rs.thenS, opStore, expo, itmOf, wipeR, mAppend, mExtend, sAsg_, List.mapM_cons, List.mapM_nil, Option.bind_eq_bind, Option.bind_some, Option.pure_def, List.append_assoc, sz0, sy0, sz1, sy1, sz2, sy2, sz3, sy3, sz4, sy4, sz5, sy5, sz6, sy6, sz7, sy7, sz8, sy8, sz9, sy9, sz10, sy10, sz11, sy11, sz12, sy12, sz13, sy13, sz14, sy14, sz15, sy15, sz16, sy16, sz17, sy17, sz18, sy18, sz19, sy19, sz20, sy20, sz21, sy21, sz22, sy22, sz23, sy23, sz24, sy24, sz25, sy25, sz26, sy26, sz27, sy27, sz28, sy28, sz29, sy29, sz30, sy30, sz31, sy31, sz32, sy32, sz33, sy33, sz34, sy34, sz35, sy35, sz36, sy36, sz37, sy37, sz38, sy38, sz39, sy39, sz40, sy40, sPar3_, iZp_, cIsE_, zipOf, isL, opRepT, opIsB, fMax2, fMin2, mCountB, mIndexB, bools0, bools1, List.getElem?_cons_zero, List.getElem?_cons_succ, List.map_cons, List.map_nil, List.length_cons, List.length_nil, List.cons_append, List.nil_append, List.replicate_succ, List.replicate_zero, List.set_cons_zero, List.set_cons_succ, Nat.zero_add, Nat.reduceAdd, Nat.reduceSub, ↓reduceIte, reduceCtorEq, String.reduceBEq, kb_NoneType_int, kb_NoneType_bool, kb_NoneType_str, kb_NoneType_tuple, kb_NoneType_list, kb_NoneType_dict, kb_bool_int, kb_bool_bool, kb_bool_str, kb_bool_tuple, kb_bool_list, kb_bool_dict, kb_int_int, kb_int_bool, kb_int_str, kb_int_tuple, kb_int_list, kb_int_dict, kb_str_int, kb_str_bool, kb_str_str, kb_str_tuple, kb_str_list, kb_str_dict, kb_list_int, kb_list_bool, kb_list_str, kb_list_tuple, kb_list_list, kb_list_dict, kb_tuple_int, kb_tuple_bool, kb_tuple_str, kb_tuple_tuple, kb_tuple_list, kb_tuple_dict, kb_dict_int, kb_dict_bool, kb_dict_str, kb_dict_tuple, kb_dict_list, kb_dict_dict, String.reduceEq, Int.reduceLT, Int.reduceLE, Int.reduceNeg, Int.reducePow, Nat.reducePow, Int.reduceToNat, Nat.reduceLT, Nat.reduceLeDiff, decide_true, decide_false, and_self, and_true, true_and, or_true, true_or, or_false, false_or, Bool.not_true, Bool.not_false, Bool.true_eq_false, Bool.false_eq_true, Option.map_some, Option.map_none, e1', e2, fBest, hi, hlst, ix11, ix43, hgx, m1, m2, max2, min2, hc', List.take_length]
end L28
set_option maxRecDepth 100000
set_option maxHeartbeats 1000000
namespace L28
open PySem PySem.Spec PyProof.Rows L2 Em
theorem iR2_ok {c : AC} {ρ : Vr} {μ : Mem} {I J : Int} (h : c ρ μ = .ok [.d (.int I), .d (.int J)] μ) (b1 : -1000 ≤ I) (b2 : I ≤ 100000) (b3 : -1000 ≤ J) (b4 : J ≤ 100000) : iR2 c ρ μ = .ok (.rng I 1 (J - I).toNat) μ := by
  rw [iR2_, h]
  simp only [Rs.bind]
  rw [if_pos ⟨by omega, by omega, by omega, by omega⟩]
theorem iR1_ok {c : EC} {ρ : Vr} {μ μ' : Mem} {J : Int} (h : c ρ μ = .ok (.d (.int J)) μ') (b3 : -1000 ≤ J) (b4 : J ≤ 100000) : iR1 c ρ μ = .ok (.rng 0 1 J.toNat) μ' := by
  rw [iR1_, h]
  simp only [Rs.bind]
  rw [if_pos ⟨by omega, by omega⟩]
def bodyT : SC := (sCons (sSet 10 (cH (cBin opAdd (cH (cBin opAdd (cV 10) (cV 7))) (cH (cBin opIx (cV 5) (cV 11))))))
  (sPar 8 9 (cH (cCall fMax2 (cCons (cV 8) (cCons (cV 10) cNil)))) (cH (cCall fMin2 (cCons (cV 9) (cCons (cH (cBin opAdd (cH (cBin opIx (cV 4) (cK (.int 3)))) (cV 10))) cNil))))))
theorem stretch_body : C__law_stretch = (sCons (sAsg (gT (gsC (gN 4) (gsC (gN 5) (gsC (gN 6) (gsC (gN 7) gsN))))) (cV 0))
  (sCons (sPar3 8 9 10 (cK (.int 0)) (cH (cCall fMin2 (cCons (cH (cBin opIx (cH (cBin opIx (cV 4) (cK (.int 1)))) (cV 6))) (cCons (cH (cBin opIx (cV 4) (cK (.int 3)))) cNil)))) (cK (.int 0)))
  (sCons (sFor (iR2 (cCons (cV 1) (cCons (cV 2) cNil))) (gN 11) bodyT)
  (sCons (sSet 8 (cH (cCall fMax2 (cCons (cV 8) (cCons (cH (cBin opAdd (cV 3) (cV 10))) cNil)))))
  (sRet (cIf (cT (cBin opLe (cV 8) (cV 9))) (cCall opTup (cCons (cV 8) (cCons (cV 9) cNil))) (cK .none))))))) := rfl
theorem law_stretch_int (ls gs rs : List Int) (a b I J Fl : Int) (i j : Nat) (hI : I = (i : Int)) (hJ : J = (j : Int)) (due lo g : Int) (h1 : i ≤ j) (h2 : j ≤ rs.length) (h3 : rs.length ≤ 1000) (hgx : L2.atI (gs.map PyData.int) Fl = some (.int g)) (μ : Mem) :
    F__law_stretch [.d (.tuple [kitD ls gs a b, .tuple (rs.map .int), .int Fl, .int lo]), .d (.int I), .d (.int J), .d (.int due)] μ = .ok (.d (strD g b ((rs.drop i).take (j - i)) lo (j - i) due)) μ := by
  have hsl : ((rs.drop i).take (j - i)).length = j - i := by simp; omega
  have hseg : ∀ k, k < j - i → ((rs.drop i).take (j - i))[k]? = rs[i + k]? := fun k hk => by rw [List.getElem?_take_of_lt hk, List.getElem?_drop]
  generalize (rs.drop i).take (j - i) = seg at hsl hseg ⊢
  unfold kitD
  generalize hA : (PyData.tuple [.tuple [.tuple (ls.map .int), .tuple (gs.map .int), .int a, .int b], .tuple (rs.map .int), .int Fl, .int lo]) = A
  obtain ⟨ρ', μ', ef, ⟨z, rfl⟩, hμ⟩ := for_inv (b := stepS (gN 11) bodyT) (itm_rng I (J - I).toNat) (fun k ρ μ' => (∃ z, ρ = [some (.d A), some (.d (.int I)), some (.d (.int J)), some (.d (.int due)), some (.d (.tuple [.tuple (ls.map .int), .tuple (gs.map .int), .int a, .int b])), some (.d (.tuple (rs.map .int))), some (.d (.int Fl)), some (.d (.int lo)), some (.d (.int (mx seg lo k))), some (.d (.int (min g (b + mn seg lo k)))), some (.d (.int (S seg lo k))), z]) ∧ μ' = μ) (fun k d ρ μ' hd hI => by
    obtain ⟨⟨z, rfl⟩, rfl⟩ := hI
    have hk : k < j - i := by
      have := (List.getElem?_eq_some_iff.mp hd).1
      simp [rngD] at this
      omega
    have hd' : d = .int (I + (k : Nat)) := by
      unfold rngD at hd
      rw [List.getElem?_map, List.getElem?_range (by omega)] at hd
      simpa using hd.symm
    subst hd'
    have hx : rs[i + k]? = some (rs[i + k]'(by omega)) := List.getElem?_eq_getElem (by omega)
    have hx2 := atI_ints hx
    rw [show ((i + k : Nat) : Int) = I + (k : Nat) by omega] at hx2
    have hx3 : L2.atI (rs.map PyData.int) (I + (k : Nat)) = some (.int (rs[i + k]'(by omega))) := hx2
    have hS := S_succ (loss := lo) ((hseg k hk).trans hx)
    have e1 : S seg lo k + lo + rs[i + k]'(by omega) = S seg lo (k + 1) := by rw [hS]; omega
    have e2 : min (min g (b + mn seg lo k)) (b + S seg lo (k + 1)) = min g (b + mn seg lo (k + 1)) := by rw [mn_succ]; omega
    refine ⟨_, _, ?_, ⟨some (.d (.int (I + (k : Nat)))), rfl⟩, rfl⟩
    simp only [bodyT, cV_, cK_, cBin_, cCall_, cCons_, cNil_, cH_, cD_, cA_, cT_, cIf_, cAndT_, cOrT_, cNotT_, cAndV_, cOrV_, cNotV_, cChain_, cSl_, cPart_, cNoPart_, cMt_, cIsi_, cNeg_, cFn_, sNil_, sCons_, sIf_, sSet_, sPar_, sExpr_, sRet_, sRetN_, sRaise_, sBrk_, sCnt_, sStore_, fnOf_, iAny_, iR1_, iR2_, iEn_, gN_, gT_, gsN_, gsC_, stepS_, cYes_, lcF_, bT, iP, isTy, tyName, opTup, opLst, opAdd, opII, cDivB, opMul, opOrd, opEq, kD_nn, kD_ii, kD_bb, kD_ss, kD_ni, kD_nb, kD_ns, kD_in, kD_bn, kD_sn, kD_is, kD_si, kD_bs, kD_sb, kD_tuple1, kD_tuple2, kD_list1, kD_list2, kD_ib, kD_bi, opIsN, opIx, opSl, one, fLen, fInt, fAbs, fTup, fList, see, hold, toD, adopt, Rs.bind, Rs.thenS, opStore, expo, itmOf, wipeR, mAppend, mExtend, sAsg_, List.mapM_cons, List.mapM_nil, Option.bind_eq_bind, Option.bind_some, Option.pure_def, List.append_assoc, sz0, sy0, sz1, sy1, sz2, sy2, sz3, sy3, sz4, sy4, sz5, sy5, sz6, sy6, sz7, sy7, sz8, sy8, sz9, sy9, sz10, sy10, sz11, sy11, sz12, sy12, sz13, sy13, sz14, sy14, sz15, sy15, sz16, sy16, sz17, sy17, sz18, sy18, sz19, sy19, sz20, sy20, sz21, sy21, sz22, sy22, sz23, sy23, sz24, sy24, sz25, sy25, sz26, sy26, sz27, sy27, sz28, sy28, sz29, sy29, sz30, sy30, sz31, sy31, sz32, sy32, sz33, sy33, sz34, sy34, sz35, sy35, sz36, sy36, sz37, sy37, sz38, sy38, sz39, sy39, sz40, sy40, sPar3_, iZp_, cIsE_, zipOf, isL, opRepT, opIsB, fMax2, fMin2, mCountB, mIndexB, bools0, bools1, List.getElem?_cons_zero, List.getElem?_cons_succ, List.map_cons, List.map_nil, List.length_cons, List.length_nil, List.cons_append, List.nil_append, List.replicate_succ, List.replicate_zero, List.set_cons_zero, List.set_cons_succ, Nat.zero_add, Nat.reduceAdd, Nat.reduceSub, ↓reduceIte, reduceCtorEq, String.reduceBEq, kb_NoneType_int, kb_NoneType_bool, kb_NoneType_str, kb_NoneType_tuple, kb_NoneType_list, kb_NoneType_dict, kb_bool_int, kb_bool_bool, kb_bool_str, kb_bool_tuple, kb_bool_list, kb_bool_dict, kb_int_int, kb_int_bool, kb_int_str, kb_int_tuple, kb_int_list, kb_int_dict, kb_str_int, kb_str_bool, kb_str_str, kb_str_tuple, kb_str_list, kb_str_dict, kb_list_int, kb_list_bool, kb_list_str, kb_list_tuple, kb_list_list, kb_list_dict, kb_tuple_int, kb_tuple_bool, kb_tuple_str, kb_tuple_tuple, kb_tuple_list, kb_tuple_dict, kb_dict_int, kb_dict_bool, kb_dict_str, kb_dict_tuple, kb_dict_list, kb_dict_dict, String.reduceEq, Int.reduceLT, Int.reduceLE, Int.reduceNeg, Int.reducePow, Nat.reducePow, Int.reduceToNat, Nat.reduceLT, Nat.reduceLeDiff, decide_true, decide_false, and_self, and_true, true_and, or_true, true_or, or_false, false_or, Bool.not_true, Bool.not_false, Bool.true_eq_false, Bool.false_eq_true, Option.map_some, Option.map_none, hx3, ix43, max2, min2, e1, e2, mx_succ]) (ρ := [some (.d A), some (.d (.int I)), some (.d (.int J)), some (.d (.int due)), some (.d (.tuple [.tuple (ls.map .int), .tuple (gs.map .int), .int a, .int b])), some (.d (.tuple (rs.map .int))), some (.d (.int Fl)), some (.d (.int lo)), some (.d (.int 0)), some (.d (.int (min g b))), some (.d (.int 0)), none]) (μ := μ) ⟨⟨none, by
      have : min g (b + mn seg lo 0) = min g b := by
        show min g (b + 0) = _
        rw [Int.add_zero]
      rw [this]; try rfl⟩, rfl⟩
  rw [hμ] at ef
  have hn : (rngD I (J - I).toNat).length = j - i := by simp [rngD]; omega
  have hfor : sFor (iR2 (cCons (cV 1) (cCons (cV 2) cNil))) (gN 11) bodyT [some (.d A), some (.d (.int I)), some (.d (.int J)), some (.d (.int due)), some (.d (.tuple [.tuple (ls.map .int), .tuple (gs.map .int), .int a, .int b])), some (.d (.tuple (rs.map .int))), some (.d (.int Fl)), some (.d (.int lo)), some (.d (.int 0)), some (.d (.int (min g b))), some (.d (.int 0)), none] μ = _ := (sFor_eq (itm_rng I (J - I).toNat) (μ1 := μ) (iR2_ok (by simp only [cV_, cK_, cBin_, cCall_, cCons_, cNil_, cH_, cD_, cA_, cT_, cIf_, cAndT_, cOrT_, cNotT_, cAndV_, cOrV_, cNotV_, cChain_, cSl_, cPart_, cNoPart_, cMt_, cIsi_, cNeg_, cFn_, sNil_, sCons_, sIf_, sSet_, sPar_, sExpr_, sRet_, sRetN_, sRaise_, sBrk_, sCnt_, sStore_, fnOf_, iAny_, iR1_, iR2_, iEn_, gN_, gT_, gsN_, gsC_, stepS_, cYes_, lcF_, bT, iP, isTy, tyName, opTup, opLst, opAdd, opII, cDivB, opMul, opOrd, opEq, kD_nn, kD_ii, kD_bb, kD_ss, kD_ni, kD_nb, kD_ns, kD_in, kD_bn, kD_sn, kD_is, kD_si, kD_bs, kD_sb, kD_tuple1, kD_tuple2, kD_list1, kD_list2, kD_ib, kD_bi, opIsN, opIx, opSl, one, fLen, fInt, fAbs, fTup, fList, see, hold, toD, adopt, Rs.bind, Rs.thenS, opStore, expo, itmOf, wipeR, mAppend, mExtend, sAsg_, List.mapM_cons, List.mapM_nil, Option.bind_eq_bind, Option.bind_some, Option.pure_def, List.append_assoc, sz0, sy0, sz1, sy1, sz2, sy2, sz3, sy3, sz4, sy4, sz5, sy5, sz6, sy6, sz7, sy7, sz8, sy8, sz9, sy9, sz10, sy10, sz11, sy11, sz12, sy12, sz13, sy13, sz14, sy14, sz15, sy15, sz16, sy16, sz17, sy17, sz18, sy18, sz19, sy19, sz20, sy20, sz21, sy21, sz22, sy22, sz23, sy23, sz24, sy24, sz25, sy25, sz26, sy26, sz27, sy27, sz28, sy28, sz29, sy29, sz30, sy30, sz31, sy31, sz32, sy32, sz33, sy33, sz34, sy34, sz35, sy35, sz36, sy36, sz37, sy37, sz38, sy38, sz39, sy39, sz40, sy40, sPar3_, iZp_, cIsE_, zipOf, isL, opRepT, opIsB, fMax2, fMin2, mCountB, mIndexB, bools0, bools1, List.getElem?_cons_zero, List.getElem?_cons_succ, List.map_cons, List.map_nil, List.length_cons, List.length_nil, List.cons_append, List.nil_append, List.replicate_succ, List.replicate_zero, List.set_cons_zero, List.set_cons_succ, Nat.zero_add, Nat.reduceAdd, Nat.reduceSub, ↓reduceIte, reduceCtorEq, String.reduceBEq, kb_NoneType_int, kb_NoneType_bool, kb_NoneType_str, kb_NoneType_tuple, kb_NoneType_list, kb_NoneType_dict, kb_bool_int, kb_bool_bool, kb_bool_str, kb_bool_tuple, kb_bool_list, kb_bool_dict, kb_int_int, kb_int_bool, kb_int_str, kb_int_tuple, kb_int_list, kb_int_dict, kb_str_int, kb_str_bool, kb_str_str, kb_str_tuple, kb_str_list, kb_str_dict, kb_list_int, kb_list_bool, kb_list_str, kb_list_tuple, kb_list_list, kb_list_dict, kb_tuple_int, kb_tuple_bool, kb_tuple_str, kb_tuple_tuple, kb_tuple_list, kb_tuple_dict, kb_dict_int, kb_dict_bool, kb_dict_str, kb_dict_tuple, kb_dict_list, kb_dict_dict, String.reduceEq, Int.reduceLT, Int.reduceLE, Int.reduceNeg, Int.reducePow, Nat.reducePow, Int.reduceToNat, Nat.reduceLT, Nat.reduceLeDiff, decide_true, decide_false, and_self, and_true, true_and, or_true, true_or, or_false, false_or, Bool.not_true, Bool.not_false, Bool.true_eq_false, Bool.false_eq_true, Option.map_some, Option.map_none]) (by omega) (by omega) (by omega) (by omega))).trans ef
  rw [hn] at hfor
  unfold strD
  subst hA
  have hadd : due + S seg lo (j - i) = S seg lo (j - i) + due := Int.add_comm _ _
  by_cases hc : decide (max (mx seg lo (j - i)) (S seg lo (j - i) + due) ≤ min g (b + mn seg lo (j - i))) = true
  · rw [if_pos (of_decide_eq_true hc)]
    simp only [F__law_stretch, stretch_body, cV_, cK_, cBin_, cCall_, cCons_, cNil_, cH_, cD_, cA_, cT_, cIf_, cAndT_, cOrT_, cNotT_, cAndV_, cOrV_, cNotV_, cChain_, cSl_, cPart_, cNoPart_, cMt_, cIsi_, cNeg_, cFn_, sNil_, sCons_, sIf_, sSet_, sPar_, sExpr_, sRet_, sRetN_, sRaise_, sBrk_, sCnt_, sStore_, fnOf_, iAny_, iR1_, iR2_, iEn_, gN_, gT_, gsN_, gsC_, stepS_, cYes_, lcF_, bT, iP, isTy, tyName, opTup, opLst, opAdd, opII, cDivB, opMul, opOrd, opEq, kD_nn, kD_ii, kD_bb, kD_ss, kD_ni, kD_nb, kD_ns, kD_in, kD_bn, kD_sn, kD_is, kD_si, kD_bs, kD_sb, kD_tuple1, kD_tuple2, kD_list1, kD_list2, kD_ib, kD_bi, opIsN, opIx, opSl, one, fLen, fInt, fAbs, fTup, fList, see, hold, toD, adopt, Rs.bind, Rs.thenS, opStore, expo, itmOf, wipeR, mAppend, mExtend, sAsg_, List.mapM_cons, List.mapM_nil, Option.bind_eq_bind, Option.bind_some, Option.pure_def, List.append_assoc, sz0, sy0, sz1, sy1, sz2, sy2, sz3, sy3, sz4, sy4, sz5, sy5, sz6, sy6, sz7, sy7, sz8, sy8, sz9, sy9, sz10, sy10, sz11, sy11, sz12, sy12, sz13, sy13, sz14, sy14, sz15, sy15, sz16, sy16, sz17, sy17, sz18, sy18, sz19, sy19, sz20, sy20, sz21, sy21, sz22, sy22, sz23, sy23, sz24, sy24, sz25, sy25, sz26, sy26, sz27, sy27, sz28, sy28, sz29, sy29, sz30, sy30, sz31, sy31, sz32, sy32, sz33, sy33, sz34, sy34, sz35, sy35, sz36, sy36, sz37, sy37, sz38, sy38, sz39, sy39, sz40, sy40, sPar3_, iZp_, cIsE_, zipOf, isL, opRepT, opIsB, fMax2, fMin2, mCountB, mIndexB, bools0, bools1, List.getElem?_cons_zero, List.getElem?_cons_succ, List.map_cons, List.map_nil, List.length_cons, List.length_nil, List.cons_append, List.nil_append, List.replicate_succ, List.replicate_zero, List.set_cons_zero, List.set_cons_succ, Nat.zero_add, Nat.reduceAdd, Nat.reduceSub, ↓reduceIte, reduceCtorEq, String.reduceBEq, kb_NoneType_int, kb_NoneType_bool, kb_NoneType_str, kb_NoneType_tuple, kb_NoneType_list, kb_NoneType_dict, kb_bool_int, kb_bool_bool, kb_bool_str, kb_bool_tuple, kb_bool_list, kb_bool_dict, kb_int_int, kb_int_bool, kb_int_str, kb_int_tuple, kb_int_list, kb_int_dict, kb_str_int, kb_str_bool, kb_str_str, kb_str_tuple, kb_str_list, kb_str_dict, kb_list_int, kb_list_bool, kb_list_str, kb_list_tuple, kb_list_list, kb_list_dict, kb_tuple_int, kb_tuple_bool, kb_tuple_str, kb_tuple_tuple, kb_tuple_list, kb_tuple_dict, kb_dict_int, kb_dict_bool, kb_dict_str, kb_dict_tuple, kb_dict_list, kb_dict_dict, String.reduceEq, Int.reduceLT, Int.reduceLE, Int.reduceNeg, Int.reducePow, Nat.reducePow, Int.reduceToNat, Nat.reduceLT, Nat.reduceLeDiff, decide_true, decide_false, and_self, and_true, true_and, or_true, true_or, or_false, false_or, Bool.not_true, Bool.not_false, Bool.true_eq_false, Bool.false_eq_true, Option.map_some, Option.map_none, ix11, ix43, hgx, min2, hfor, max2, hadd, hc, List.take_length]
  · have hc' := Bool.eq_false_iff.mpr hc
    rw [if_neg (of_decide_eq_false hc')]
    simp only [F__law_stretch, stretch_body, cV_, cK_, cBin_, cCall_, cCons_, cNil_, cH_, cD_, cA_, cT_, cIf_, cAndT_, cOrT_, cNotT_, cAndV_, cOrV_, cNotV_, cChain_, cSl_, cPart_, cNoPart_, cMt_, cIsi_, cNeg_, cFn_, sNil_, sCons_, sIf_, sSet_, sPar_, sExpr_, sRet_, sRetN_, sRaise_, sBrk_, sCnt_, sStore_, fnOf_, iAny_, iR1_, iR2_, iEn_, gN_, gT_, gsN_, gsC_, stepS_, cYes_, lcF_, bT, iP, isTy, tyName, opTup, opLst, opAdd, opII, cDivB, opMul, opOrd, opEq, kD_nn, kD_ii, kD_bb, kD_ss, kD_ni, kD_nb, kD_ns, kD_in, kD_bn, kD_sn, kD_is, kD_si, kD_bs, kD_sb, kD_tuple1, kD_tuple2, kD_list1, kD_list2, kD_ib, kD_bi, opIsN, opIx, opSl, one, fLen, fInt, fAbs, fTup, fList, see, hold, toD, adopt, Rs.bind, Rs.thenS, opStore, expo, itmOf, wipeR, mAppend, mExtend, sAsg_, List.mapM_cons, List.mapM_nil, Option.bind_eq_bind, Option.bind_some, Option.pure_def, List.append_assoc, sz0, sy0, sz1, sy1, sz2, sy2, sz3, sy3, sz4, sy4, sz5, sy5, sz6, sy6, sz7, sy7, sz8, sy8, sz9, sy9, sz10, sy10, sz11, sy11, sz12, sy12, sz13, sy13, sz14, sy14, sz15, sy15, sz16, sy16, sz17, sy17, sz18, sy18, sz19, sy19, sz20, sy20, sz21, sy21, sz22, sy22, sz23, sy23, sz24, sy24, sz25, sy25, sz26, sy26, sz27, sy27, sz28, sy28, sz29, sy29, sz30, sy30, sz31, sy31, sz32, sy32, sz33, sy33, sz34, sy34, sz35, sy35, sz36, sy36, sz37, sy37, sz38, sy38, sz39, sy39, sz40, sy40, sPar3_, iZp_, cIsE_, zipOf, isL, opRepT, opIsB, fMax2, fMin2, mCountB, mIndexB, bools0, bools1, List.getElem?_cons_zero, List.getElem?_cons_succ, List.map_cons, List.map_nil, List.length_cons, List.length_nil, List.cons_append, List.nil_append, List.replicate_succ, List.replicate_zero, List.set_cons_zero, List.set_cons_succ, Nat.zero_add, Nat.reduceAdd, Nat.reduceSub, ↓reduceIte, reduceCtorEq, String.reduceBEq, kb_NoneType_int, kb_NoneType_bool, kb_NoneType_str, kb_NoneType_tuple, kb_NoneType_list, kb_NoneType_dict, kb_bool_int, kb_bool_bool, kb_bool_str, kb_bool_tuple, kb_bool_list, kb_bool_dict, kb_int_int, kb_int_bool, kb_int_str, kb_int_tuple, kb_int_list, kb_int_dict, kb_str_int, kb_str_bool, kb_str_str, kb_str_tuple, kb_str_list, kb_str_dict, kb_list_int, kb_list_bool, kb_list_str, kb_list_tuple, kb_list_list, kb_list_dict, kb_tuple_int, kb_tuple_bool, kb_tuple_str, kb_tuple_tuple, kb_tuple_list, kb_tuple_dict, kb_dict_int, kb_dict_bool, kb_dict_str, kb_dict_tuple, kb_dict_list, kb_dict_dict, String.reduceEq, Int.reduceLT, Int.reduceLE, Int.reduceNeg, Int.reducePow, Nat.reducePow, Int.reduceToNat, Nat.reduceLT, Nat.reduceLeDiff, decide_true, decide_false, and_self, and_true, true_and, or_true, true_or, or_false, false_or, Bool.not_true, Bool.not_false, Bool.true_eq_false, Bool.false_eq_true, Option.map_some, Option.map_none, ix11, ix43, hgx, min2, hfor, max2, hadd, hc', List.take_length]
theorem law_stretch_ok (ls gs rs : List Int) (a b : Int) (f i j : Nat) (due lo g : Int) (h1 : i ≤ j) (h2 : j ≤ rs.length) (h3 : rs.length ≤ 1000) (hg : gs[f]? = some g) (μ : Mem) :
    F__law_stretch [.d (.tuple [kitD ls gs a b, .tuple (rs.map .int), .int (f : Int), .int lo]), .d (.int (i : Int)), .d (.int (j : Int)), .d (.int due)] μ = .ok (.d (strD g b ((rs.drop i).take (j - i)) lo (j - i) due)) μ :=
  law_stretch_int ls gs rs a b _ _ _ i j rfl rfl due lo g h1 h2 h3 (atI_ints hg) μ
end L28
set_option maxRecDepth 100000
set_option maxHeartbeats 1000000
namespace L28
open PySem PySem.Spec PyProof.Rows L2 Em
def nd2 (x : D) : Prop := noDict x = true ∧ ∀ xs, x = .tuple xs → xs.length ≤ 1000 ∧ ∀ y ∈ xs, noDict y = true
/-! ### checks -/
theorem check_kit_ok {x : D} (h : ∀ μ, F_is_kit [.d x] μ = .ok (.d (.bool true)) μ) (μ : Mem) : F_check_kit [.d x] μ = .ok (.d .none) μ := by
  simp only [F_check_kit, C_check_kit, cV_, cK_, cBin_, cCall_, cCons_, cNil_, cH_, cD_, cA_, cT_, cIf_, cAndT_, cOrT_, cNotT_, cAndV_, cOrV_, cNotV_, cChain_, cSl_, cPart_, cNoPart_, cMt_, cIsi_, cNeg_, cFn_, sNil_, sCons_, sIf_, sSet_, sPar_, sExpr_, sRet_, sRetN_, sRaise_, sBrk_, sCnt_, sStore_, fnOf_, iAny_, iR1_, iR2_, iEn_, gN_, gT_, gsN_, gsC_, stepS_, cYes_, lcF_, bT, iP, isTy, tyName, opTup, opLst, opAdd, opII, cDivB, opMul, opOrd, opEq, kD_nn, kD_ii, kD_bb, kD_ss, kD_ni, kD_nb, kD_ns, kD_in, kD_bn, kD_sn, kD_is, kD_si, kD_bs, kD_sb, kD_tuple1, kD_tuple2, kD_list1, kD_list2, kD_ib, kD_bi, opIsN, opIx, opSl, one, fLen, fInt, fAbs, fTup, fList, see, hold, toD, adopt, Rs.bind, Rs.thenS, opStore, expo, itmOf, wipeR, mAppend, mExtend, sAsg_, List.mapM_cons, List.mapM_nil, Option.bind_eq_bind, Option.bind_some, Option.pure_def, List.append_assoc, sz0, sy0, sz1, sy1, sz2, sy2, sz3, sy3, sz4, sy4, sz5, sy5, sz6, sy6, sz7, sy7, sz8, sy8, sz9, sy9, sz10, sy10, sz11, sy11, sz12, sy12, sz13, sy13, sz14, sy14, sz15, sy15, sz16, sy16, sz17, sy17, sz18, sy18, sz19, sy19, sz20, sy20, sz21, sy21, sz22, sy22, sz23, sy23, sz24, sy24, sz25, sy25, sz26, sy26, sz27, sy27, sz28, sy28, sz29, sy29, sz30, sy30, sz31, sy31, sz32, sy32, sz33, sy33, sz34, sy34, sz35, sy35, sz36, sy36, sz37, sy37, sz38, sy38, sz39, sy39, sz40, sy40, sPar3_, iZp_, cIsE_, zipOf, isL, opRepT, opIsB, fMax2, fMin2, mCountB, mIndexB, bools0, bools1, List.getElem?_cons_zero, List.getElem?_cons_succ, List.map_cons, List.map_nil, List.length_cons, List.length_nil, List.cons_append, List.nil_append, List.replicate_succ, List.replicate_zero, List.set_cons_zero, List.set_cons_succ, Nat.zero_add, Nat.reduceAdd, Nat.reduceSub, ↓reduceIte, reduceCtorEq, String.reduceBEq, kb_NoneType_int, kb_NoneType_bool, kb_NoneType_str, kb_NoneType_tuple, kb_NoneType_list, kb_NoneType_dict, kb_bool_int, kb_bool_bool, kb_bool_str, kb_bool_tuple, kb_bool_list, kb_bool_dict, kb_int_int, kb_int_bool, kb_int_str, kb_int_tuple, kb_int_list, kb_int_dict, kb_str_int, kb_str_bool, kb_str_str, kb_str_tuple, kb_str_list, kb_str_dict, kb_list_int, kb_list_bool, kb_list_str, kb_list_tuple, kb_list_list, kb_list_dict, kb_tuple_int, kb_tuple_bool, kb_tuple_str, kb_tuple_tuple, kb_tuple_list, kb_tuple_dict, kb_dict_int, kb_dict_bool, kb_dict_str, kb_dict_tuple, kb_dict_list, kb_dict_dict, String.reduceEq, Int.reduceLT, Int.reduceLE, Int.reduceNeg, Int.reducePow, Nat.reducePow, Int.reduceToNat, Nat.reduceLT, Nat.reduceLeDiff, decide_true, decide_false, and_self, and_true, true_and, or_true, true_or, or_false, false_or, Bool.not_true, Bool.not_false, Bool.true_eq_false, Bool.false_eq_true, Option.map_some, Option.map_none, h, List.take_length]
theorem check_kit_bad {x : D} (h : ∀ μ, F_is_kit [.d x] μ = .ok (.d (.bool false)) μ) (μ : Mem) : F_check_kit [.d x] μ = .ex ⟨"NoKit", none⟩ μ := by
  simp only [F_check_kit, C_check_kit, cV_, cK_, cBin_, cCall_, cCons_, cNil_, cH_, cD_, cA_, cT_, cIf_, cAndT_, cOrT_, cNotT_, cAndV_, cOrV_, cNotV_, cChain_, cSl_, cPart_, cNoPart_, cMt_, cIsi_, cNeg_, cFn_, sNil_, sCons_, sIf_, sSet_, sPar_, sExpr_, sRet_, sRetN_, sRaise_, sBrk_, sCnt_, sStore_, fnOf_, iAny_, iR1_, iR2_, iEn_, gN_, gT_, gsN_, gsC_, stepS_, cYes_, lcF_, bT, iP, isTy, tyName, opTup, opLst, opAdd, opII, cDivB, opMul, opOrd, opEq, kD_nn, kD_ii, kD_bb, kD_ss, kD_ni, kD_nb, kD_ns, kD_in, kD_bn, kD_sn, kD_is, kD_si, kD_bs, kD_sb, kD_tuple1, kD_tuple2, kD_list1, kD_list2, kD_ib, kD_bi, opIsN, opIx, opSl, one, fLen, fInt, fAbs, fTup, fList, see, hold, toD, adopt, Rs.bind, Rs.thenS, opStore, expo, itmOf, wipeR, mAppend, mExtend, sAsg_, List.mapM_cons, List.mapM_nil, Option.bind_eq_bind, Option.bind_some, Option.pure_def, List.append_assoc, sz0, sy0, sz1, sy1, sz2, sy2, sz3, sy3, sz4, sy4, sz5, sy5, sz6, sy6, sz7, sy7, sz8, sy8, sz9, sy9, sz10, sy10, sz11, sy11, sz12, sy12, sz13, sy13, sz14, sy14, sz15, sy15, sz16, sy16, sz17, sy17, sz18, sy18, sz19, sy19, sz20, sy20, sz21, sy21, sz22, sy22, sz23, sy23, sz24, sy24, sz25, sy25, sz26, sy26, sz27, sy27, sz28, sy28, sz29, sy29, sz30, sy30, sz31, sy31, sz32, sy32, sz33, sy33, sz34, sy34, sz35, sy35, sz36, sy36, sz37, sy37, sz38, sy38, sz39, sy39, sz40, sy40, sPar3_, iZp_, cIsE_, zipOf, isL, opRepT, opIsB, fMax2, fMin2, mCountB, mIndexB, bools0, bools1, List.getElem?_cons_zero, List.getElem?_cons_succ, List.map_cons, List.map_nil, List.length_cons, List.length_nil, List.cons_append, List.nil_append, List.replicate_succ, List.replicate_zero, List.set_cons_zero, List.set_cons_succ, Nat.zero_add, Nat.reduceAdd, Nat.reduceSub, ↓reduceIte, reduceCtorEq, String.reduceBEq, kb_NoneType_int, kb_NoneType_bool, kb_NoneType_str, kb_NoneType_tuple, kb_NoneType_list, kb_NoneType_dict, kb_bool_int, kb_bool_bool, kb_bool_str, kb_bool_tuple, kb_bool_list, kb_bool_dict, kb_int_int, kb_int_bool, kb_int_str, kb_int_tuple, kb_int_list, kb_int_dict, kb_str_int, kb_str_bool, kb_str_str, kb_str_tuple, kb_str_list, kb_str_dict, kb_list_int, kb_list_bool, kb_list_str, kb_list_tuple, kb_list_list, kb_list_dict, kb_tuple_int, kb_tuple_bool, kb_tuple_str, kb_tuple_tuple, kb_tuple_list, kb_tuple_dict, kb_dict_int, kb_dict_bool, kb_dict_str, kb_dict_tuple, kb_dict_list, kb_dict_dict, String.reduceEq, Int.reduceLT, Int.reduceLE, Int.reduceNeg, Int.reducePow, Nat.reducePow, Int.reduceToNat, Nat.reduceLT, Nat.reduceLeDiff, decide_true, decide_false, and_self, and_true, true_and, or_true, true_or, or_false, false_or, Bool.not_true, Bool.not_false, Bool.true_eq_false, Bool.false_eq_true, Option.map_some, Option.map_none, h, List.take_length]
def riseB (x : D) : Bool := match x with
  | .tuple xs => sizedD 1 20 x && xs.all (withinD (-100) 100)
  | _ => false
theorem check_rises_ok {x : D} (hx : nd2 x) (μ : Mem) : F_check_rises [.d x] μ = if riseB x = true then .ok (.d .none) μ else .ex ⟨"NoRises", none⟩ μ := by
  obtain ⟨h1, h2⟩ := hx
  have h := sized_ok x 1 20 h1
  cases x with
  | tuple xs =>
    obtain ⟨h3, h4⟩ := h2 xs rfl
    have hL : ∀ μ, cLc (iAny (cV 0)) [1] (gN 1) cYes (cFn 3 F_is_within (cCons (cV 1) (cCons (cH (cNeg (cK (.int 100)))) (cCons (cK (.int 100)) cNil)))) [some (.d (.tuple xs)), none] μ = .ok (.fl ((xs.map (withinD (-100) 100)).map .bool)) μ := fun μ => by
      rw [List.map_map]
      refine cLc_map1 _ (itm_tuple _) ?_ (nat_sizeLine (by omega)) ?_
      · simp only [cV_, cK_, cBin_, cCall_, cCons_, cNil_, cH_, cD_, cA_, cT_, cIf_, cAndT_, cOrT_, cNotT_, cAndV_, cOrV_, cNotV_, cChain_, cSl_, cPart_, cNoPart_, cMt_, cIsi_, cNeg_, cFn_, sNil_, sCons_, sIf_, sSet_, sPar_, sExpr_, sRet_, sRetN_, sRaise_, sBrk_, sCnt_, sStore_, fnOf_, iAny_, iR1_, iR2_, iEn_, gN_, gT_, gsN_, gsC_, stepS_, cYes_, lcF_, bT, iP, isTy, tyName, opTup, opLst, opAdd, opII, cDivB, opMul, opOrd, opEq, kD_nn, kD_ii, kD_bb, kD_ss, kD_ni, kD_nb, kD_ns, kD_in, kD_bn, kD_sn, kD_is, kD_si, kD_bs, kD_sb, kD_tuple1, kD_tuple2, kD_list1, kD_list2, kD_ib, kD_bi, opIsN, opIx, opSl, one, fLen, fInt, fAbs, fTup, fList, see, hold, toD, adopt, Rs.bind, Rs.thenS, opStore, expo, itmOf, wipeR, mAppend, mExtend, sAsg_, List.mapM_cons, List.mapM_nil, Option.bind_eq_bind, Option.bind_some, Option.pure_def, List.append_assoc, sz0, sy0, sz1, sy1, sz2, sy2, sz3, sy3, sz4, sy4, sz5, sy5, sz6, sy6, sz7, sy7, sz8, sy8, sz9, sy9, sz10, sy10, sz11, sy11, sz12, sy12, sz13, sy13, sz14, sy14, sz15, sy15, sz16, sy16, sz17, sy17, sz18, sy18, sz19, sy19, sz20, sy20, sz21, sy21, sz22, sy22, sz23, sy23, sz24, sy24, sz25, sy25, sz26, sy26, sz27, sy27, sz28, sy28, sz29, sy29, sz30, sy30, sz31, sy31, sz32, sy32, sz33, sy33, sz34, sy34, sz35, sy35, sz36, sy36, sz37, sy37, sz38, sy38, sz39, sy39, sz40, sy40, sPar3_, iZp_, cIsE_, zipOf, isL, opRepT, opIsB, fMax2, fMin2, mCountB, mIndexB, bools0, bools1, List.getElem?_cons_zero, List.getElem?_cons_succ, List.map_cons, List.map_nil, List.length_cons, List.length_nil, List.cons_append, List.nil_append, List.replicate_succ, List.replicate_zero, List.set_cons_zero, List.set_cons_succ, Nat.zero_add, Nat.reduceAdd, Nat.reduceSub, ↓reduceIte, reduceCtorEq, String.reduceBEq, kb_NoneType_int, kb_NoneType_bool, kb_NoneType_str, kb_NoneType_tuple, kb_NoneType_list, kb_NoneType_dict, kb_bool_int, kb_bool_bool, kb_bool_str, kb_bool_tuple, kb_bool_list, kb_bool_dict, kb_int_int, kb_int_bool, kb_int_str, kb_int_tuple, kb_int_list, kb_int_dict, kb_str_int, kb_str_bool, kb_str_str, kb_str_tuple, kb_str_list, kb_str_dict, kb_list_int, kb_list_bool, kb_list_str, kb_list_tuple, kb_list_list, kb_list_dict, kb_tuple_int, kb_tuple_bool, kb_tuple_str, kb_tuple_tuple, kb_tuple_list, kb_tuple_dict, kb_dict_int, kb_dict_bool, kb_dict_str, kb_dict_tuple, kb_dict_list, kb_dict_dict, String.reduceEq, Int.reduceLT, Int.reduceLE, Int.reduceNeg, Int.reducePow, Nat.reducePow, Int.reduceToNat, Nat.reduceLT, Nat.reduceLeDiff, decide_true, decide_false, and_self, and_true, true_and, or_true, true_or, or_false, false_or, Bool.not_true, Bool.not_false, Bool.true_eq_false, Bool.false_eq_true, Option.map_some, Option.map_none]
      · intro d hd μ' _
        simp only [cV_, cK_, cBin_, cCall_, cCons_, cNil_, cH_, cD_, cA_, cT_, cIf_, cAndT_, cOrT_, cNotT_, cAndV_, cOrV_, cNotV_, cChain_, cSl_, cPart_, cNoPart_, cMt_, cIsi_, cNeg_, cFn_, sNil_, sCons_, sIf_, sSet_, sPar_, sExpr_, sRet_, sRetN_, sRaise_, sBrk_, sCnt_, sStore_, fnOf_, iAny_, iR1_, iR2_, iEn_, gN_, gT_, gsN_, gsC_, stepS_, cYes_, lcF_, bT, iP, isTy, tyName, opTup, opLst, opAdd, opII, cDivB, opMul, opOrd, opEq, kD_nn, kD_ii, kD_bb, kD_ss, kD_ni, kD_nb, kD_ns, kD_in, kD_bn, kD_sn, kD_is, kD_si, kD_bs, kD_sb, kD_tuple1, kD_tuple2, kD_list1, kD_list2, kD_ib, kD_bi, opIsN, opIx, opSl, one, fLen, fInt, fAbs, fTup, fList, see, hold, toD, adopt, Rs.bind, Rs.thenS, opStore, expo, itmOf, wipeR, mAppend, mExtend, sAsg_, List.mapM_cons, List.mapM_nil, Option.bind_eq_bind, Option.bind_some, Option.pure_def, List.append_assoc, sz0, sy0, sz1, sy1, sz2, sy2, sz3, sy3, sz4, sy4, sz5, sy5, sz6, sy6, sz7, sy7, sz8, sy8, sz9, sy9, sz10, sy10, sz11, sy11, sz12, sy12, sz13, sy13, sz14, sy14, sz15, sy15, sz16, sy16, sz17, sy17, sz18, sy18, sz19, sy19, sz20, sy20, sz21, sy21, sz22, sy22, sz23, sy23, sz24, sy24, sz25, sy25, sz26, sy26, sz27, sy27, sz28, sy28, sz29, sy29, sz30, sy30, sz31, sy31, sz32, sy32, sz33, sy33, sz34, sy34, sz35, sy35, sz36, sy36, sz37, sy37, sz38, sy38, sz39, sy39, sz40, sy40, sPar3_, iZp_, cIsE_, zipOf, isL, opRepT, opIsB, fMax2, fMin2, mCountB, mIndexB, bools0, bools1, List.getElem?_cons_zero, List.getElem?_cons_succ, List.map_cons, List.map_nil, List.length_cons, List.length_nil, List.cons_append, List.nil_append, List.replicate_succ, List.replicate_zero, List.set_cons_zero, List.set_cons_succ, Nat.zero_add, Nat.reduceAdd, Nat.reduceSub, ↓reduceIte, reduceCtorEq, String.reduceBEq, kb_NoneType_int, kb_NoneType_bool, kb_NoneType_str, kb_NoneType_tuple, kb_NoneType_list, kb_NoneType_dict, kb_bool_int, kb_bool_bool, kb_bool_str, kb_bool_tuple, kb_bool_list, kb_bool_dict, kb_int_int, kb_int_bool, kb_int_str, kb_int_tuple, kb_int_list, kb_int_dict, kb_str_int, kb_str_bool, kb_str_str, kb_str_tuple, kb_str_list, kb_str_dict, kb_list_int, kb_list_bool, kb_list_str, kb_list_tuple, kb_list_list, kb_list_dict, kb_tuple_int, kb_tuple_bool, kb_tuple_str, kb_tuple_tuple, kb_tuple_list, kb_tuple_dict, kb_dict_int, kb_dict_bool, kb_dict_str, kb_dict_tuple, kb_dict_list, kb_dict_dict, String.reduceEq, Int.reduceLT, Int.reduceLE, Int.reduceNeg, Int.reducePow, Nat.reducePow, Int.reduceToNat, Nat.reduceLT, Nat.reduceLeDiff, decide_true, decide_false, and_self, and_true, true_and, or_true, true_or, or_false, false_or, Bool.not_true, Bool.not_false, Bool.true_eq_false, Bool.false_eq_true, Option.map_some, Option.map_none, within_ok d (-100) 100 (h4 d hd), Function.comp]
    have ha : (xs.map (withinD (-100) 100)).all id = xs.all (withinD (-100) 100) := by rw [List.all_map]; rfl
    by_cases c1 : sizedD 1 20 (.tuple xs) = true
    · by_cases c2 : xs.all (withinD (-100) 100) = true
      · simp only [F_check_rises, C_check_rises, cV_, cK_, cBin_, cCall_, cCons_, cNil_, cH_, cD_, cA_, cT_, cIf_, cAndT_, cOrT_, cNotT_, cAndV_, cOrV_, cNotV_, cChain_, cSl_, cPart_, cNoPart_, cMt_, cIsi_, cNeg_, cFn_, sNil_, sCons_, sIf_, sSet_, sPar_, sExpr_, sRet_, sRetN_, sRaise_, sBrk_, sCnt_, sStore_, fnOf_, iAny_, iR1_, iR2_, iEn_, gN_, gT_, gsN_, gsC_, stepS_, cYes_, lcF_, bT, iP, isTy, tyName, opTup, opLst, opAdd, opII, cDivB, opMul, opOrd, opEq, kD_nn, kD_ii, kD_bb, kD_ss, kD_ni, kD_nb, kD_ns, kD_in, kD_bn, kD_sn, kD_is, kD_si, kD_bs, kD_sb, kD_tuple1, kD_tuple2, kD_list1, kD_list2, kD_ib, kD_bi, opIsN, opIx, opSl, one, fLen, fInt, fAbs, fTup, fList, see, hold, toD, adopt, Rs.bind, Rs.thenS, opStore, expo, itmOf, wipeR, mAppend, mExtend, sAsg_, List.mapM_cons, List.mapM_nil, Option.bind_eq_bind, Option.bind_some, Option.pure_def, List.append_assoc, sz0, sy0, sz1, sy1, sz2, sy2, sz3, sy3, sz4, sy4, sz5, sy5, sz6, sy6, sz7, sy7, sz8, sy8, sz9, sy9, sz10, sy10, sz11, sy11, sz12, sy12, sz13, sy13, sz14, sy14, sz15, sy15, sz16, sy16, sz17, sy17, sz18, sy18, sz19, sy19, sz20, sy20, sz21, sy21, sz22, sy22, sz23, sy23, sz24, sy24, sz25, sy25, sz26, sy26, sz27, sy27, sz28, sy28, sz29, sy29, sz30, sy30, sz31, sy31, sz32, sy32, sz33, sy33, sz34, sy34, sz35, sy35, sz36, sy36, sz37, sy37, sz38, sy38, sz39, sy39, sz40, sy40, sPar3_, iZp_, cIsE_, zipOf, isL, opRepT, opIsB, fMax2, fMin2, mCountB, mIndexB, bools0, bools1, List.getElem?_cons_zero, List.getElem?_cons_succ, List.map_cons, List.map_nil, List.length_cons, List.length_nil, List.cons_append, List.nil_append, List.replicate_succ, List.replicate_zero, List.set_cons_zero, List.set_cons_succ, Nat.zero_add, Nat.reduceAdd, Nat.reduceSub, ↓reduceIte, reduceCtorEq, String.reduceBEq, kb_NoneType_int, kb_NoneType_bool, kb_NoneType_str, kb_NoneType_tuple, kb_NoneType_list, kb_NoneType_dict, kb_bool_int, kb_bool_bool, kb_bool_str, kb_bool_tuple, kb_bool_list, kb_bool_dict, kb_int_int, kb_int_bool, kb_int_str, kb_int_tuple, kb_int_list, kb_int_dict, kb_str_int, kb_str_bool, kb_str_str, kb_str_tuple, kb_str_list, kb_str_dict, kb_list_int, kb_list_bool, kb_list_str, kb_list_tuple, kb_list_list, kb_list_dict, kb_tuple_int, kb_tuple_bool, kb_tuple_str, kb_tuple_tuple, kb_tuple_list, kb_tuple_dict, kb_dict_int, kb_dict_bool, kb_dict_str, kb_dict_tuple, kb_dict_list, kb_dict_dict, String.reduceEq, Int.reduceLT, Int.reduceLE, Int.reduceNeg, Int.reducePow, Nat.reducePow, Int.reduceToNat, Nat.reduceLT, Nat.reduceLeDiff, decide_true, decide_false, and_self, and_true, true_and, or_true, true_or, or_false, false_or, Bool.not_true, Bool.not_false, Bool.true_eq_false, Bool.false_eq_true, Option.map_some, Option.map_none, h, c1, hL, fBools, boolsOf_map, ha, c2, riseB, Bool.true_and, List.take_length]
      · have c2' := Bool.eq_false_iff.mpr c2
        simp only [F_check_rises, C_check_rises, cV_, cK_, cBin_, cCall_, cCons_, cNil_, cH_, cD_, cA_, cT_, cIf_, cAndT_, cOrT_, cNotT_, cAndV_, cOrV_, cNotV_, cChain_, cSl_, cPart_, cNoPart_, cMt_, cIsi_, cNeg_, cFn_, sNil_, sCons_, sIf_, sSet_, sPar_, sExpr_, sRet_, sRetN_, sRaise_, sBrk_, sCnt_, sStore_, fnOf_, iAny_, iR1_, iR2_, iEn_, gN_, gT_, gsN_, gsC_, stepS_, cYes_, lcF_, bT, iP, isTy, tyName, opTup, opLst, opAdd, opII, cDivB, opMul, opOrd, opEq, kD_nn, kD_ii, kD_bb, kD_ss, kD_ni, kD_nb, kD_ns, kD_in, kD_bn, kD_sn, kD_is, kD_si, kD_bs, kD_sb, kD_tuple1, kD_tuple2, kD_list1, kD_list2, kD_ib, kD_bi, opIsN, opIx, opSl, one, fLen, fInt, fAbs, fTup, fList, see, hold, toD, adopt, Rs.bind, Rs.thenS, opStore, expo, itmOf, wipeR, mAppend, mExtend, sAsg_, List.mapM_cons, List.mapM_nil, Option.bind_eq_bind, Option.bind_some, Option.pure_def, List.append_assoc, sz0, sy0, sz1, sy1, sz2, sy2, sz3, sy3, sz4, sy4, sz5, sy5, sz6, sy6, sz7, sy7, sz8, sy8, sz9, sy9, sz10, sy10, sz11, sy11, sz12, sy12, sz13, sy13, sz14, sy14, sz15, sy15, sz16, sy16, sz17, sy17, sz18, sy18, sz19, sy19, sz20, sy20, sz21, sy21, sz22, sy22, sz23, sy23, sz24, sy24, sz25, sy25, sz26, sy26, sz27, sy27, sz28, sy28, sz29, sy29, sz30, sy30, sz31, sy31, sz32, sy32, sz33, sy33, sz34, sy34, sz35, sy35, sz36, sy36, sz37, sy37, sz38, sy38, sz39, sy39, sz40, sy40, sPar3_, iZp_, cIsE_, zipOf, isL, opRepT, opIsB, fMax2, fMin2, mCountB, mIndexB, bools0, bools1, List.getElem?_cons_zero, List.getElem?_cons_succ, List.map_cons, List.map_nil, List.length_cons, List.length_nil, List.cons_append, List.nil_append, List.replicate_succ, List.replicate_zero, List.set_cons_zero, List.set_cons_succ, Nat.zero_add, Nat.reduceAdd, Nat.reduceSub, ↓reduceIte, reduceCtorEq, String.reduceBEq, kb_NoneType_int, kb_NoneType_bool, kb_NoneType_str, kb_NoneType_tuple, kb_NoneType_list, kb_NoneType_dict, kb_bool_int, kb_bool_bool, kb_bool_str, kb_bool_tuple, kb_bool_list, kb_bool_dict, kb_int_int, kb_int_bool, kb_int_str, kb_int_tuple, kb_int_list, kb_int_dict, kb_str_int, kb_str_bool, kb_str_str, kb_str_tuple, kb_str_list, kb_str_dict, kb_list_int, kb_list_bool, kb_list_str, kb_list_tuple, kb_list_list, kb_list_dict, kb_tuple_int, kb_tuple_bool, kb_tuple_str, kb_tuple_tuple, kb_tuple_list, kb_tuple_dict, kb_dict_int, kb_dict_bool, kb_dict_str, kb_dict_tuple, kb_dict_list, kb_dict_dict, String.reduceEq, Int.reduceLT, Int.reduceLE, Int.reduceNeg, Int.reducePow, Nat.reducePow, Int.reduceToNat, Nat.reduceLT, Nat.reduceLeDiff, decide_true, decide_false, and_self, and_true, true_and, or_true, true_or, or_false, false_or, Bool.not_true, Bool.not_false, Bool.true_eq_false, Bool.false_eq_true, Option.map_some, Option.map_none, h, c1, hL, fBools, boolsOf_map, ha, c2', riseB, Bool.true_and, List.take_length]
    · have c1' := Bool.eq_false_iff.mpr c1
      simp only [F_check_rises, C_check_rises, cV_, cK_, cBin_, cCall_, cCons_, cNil_, cH_, cD_, cA_, cT_, cIf_, cAndT_, cOrT_, cNotT_, cAndV_, cOrV_, cNotV_, cChain_, cSl_, cPart_, cNoPart_, cMt_, cIsi_, cNeg_, cFn_, sNil_, sCons_, sIf_, sSet_, sPar_, sExpr_, sRet_, sRetN_, sRaise_, sBrk_, sCnt_, sStore_, fnOf_, iAny_, iR1_, iR2_, iEn_, gN_, gT_, gsN_, gsC_, stepS_, cYes_, lcF_, bT, iP, isTy, tyName, opTup, opLst, opAdd, opII, cDivB, opMul, opOrd, opEq, kD_nn, kD_ii, kD_bb, kD_ss, kD_ni, kD_nb, kD_ns, kD_in, kD_bn, kD_sn, kD_is, kD_si, kD_bs, kD_sb, kD_tuple1, kD_tuple2, kD_list1, kD_list2, kD_ib, kD_bi, opIsN, opIx, opSl, one, fLen, fInt, fAbs, fTup, fList, see, hold, toD, adopt, Rs.bind, Rs.thenS, opStore, expo, itmOf, wipeR, mAppend, mExtend, sAsg_, List.mapM_cons, List.mapM_nil, Option.bind_eq_bind, Option.bind_some, Option.pure_def, List.append_assoc, sz0, sy0, sz1, sy1, sz2, sy2, sz3, sy3, sz4, sy4, sz5, sy5, sz6, sy6, sz7, sy7, sz8, sy8, sz9, sy9, sz10, sy10, sz11, sy11, sz12, sy12, sz13, sy13, sz14, sy14, sz15, sy15, sz16, sy16, sz17, sy17, sz18, sy18, sz19, sy19, sz20, sy20, sz21, sy21, sz22, sy22, sz23, sy23, sz24, sy24, sz25, sy25, sz26, sy26, sz27, sy27, sz28, sy28, sz29, sy29, sz30, sy30, sz31, sy31, sz32, sy32, sz33, sy33, sz34, sy34, sz35, sy35, sz36, sy36, sz37, sy37, sz38, sy38, sz39, sy39, sz40, sy40, sPar3_, iZp_, cIsE_, zipOf, isL, opRepT, opIsB, fMax2, fMin2, mCountB, mIndexB, bools0, bools1, List.getElem?_cons_zero, List.getElem?_cons_succ, List.map_cons, List.map_nil, List.length_cons, List.length_nil, List.cons_append, List.nil_append, List.replicate_succ, List.replicate_zero, List.set_cons_zero, List.set_cons_succ, Nat.zero_add, Nat.reduceAdd, Nat.reduceSub, ↓reduceIte, reduceCtorEq, String.reduceBEq, kb_NoneType_int, kb_NoneType_bool, kb_NoneType_str, kb_NoneType_tuple, kb_NoneType_list, kb_NoneType_dict, kb_bool_int, kb_bool_bool, kb_bool_str, kb_bool_tuple, kb_bool_list, kb_bool_dict, kb_int_int, kb_int_bool, kb_int_str, kb_int_tuple, kb_int_list, kb_int_dict, kb_str_int, kb_str_bool, kb_str_str, kb_str_tuple, kb_str_list, kb_str_dict, kb_list_int, kb_list_bool, kb_list_str, kb_list_tuple, kb_list_list, kb_list_dict, kb_tuple_int, kb_tuple_bool, kb_tuple_str, kb_tuple_tuple, kb_tuple_list, kb_tuple_dict, kb_dict_int, kb_dict_bool, kb_dict_str, kb_dict_tuple, kb_dict_list, kb_dict_dict, String.reduceEq, Int.reduceLT, Int.reduceLE, Int.reduceNeg, Int.reducePow, Nat.reducePow, Int.reduceToNat, Nat.reduceLT, Nat.reduceLeDiff, decide_true, decide_false, and_self, and_true, true_and, or_true, true_or, or_false, false_or, Bool.not_true, Bool.not_false, Bool.true_eq_false, Bool.false_eq_true, Option.map_some, Option.map_none, h, c1', riseB, Bool.false_and, List.take_length]
  | dict xs => simp [noDict] at h1
  | _ => simp only [F_check_rises, C_check_rises, cV_, cK_, cBin_, cCall_, cCons_, cNil_, cH_, cD_, cA_, cT_, cIf_, cAndT_, cOrT_, cNotT_, cAndV_, cOrV_, cNotV_, cChain_, cSl_, cPart_, cNoPart_, cMt_, cIsi_, cNeg_, cFn_, sNil_, sCons_, sIf_, sSet_, sPar_, sExpr_, sRet_, sRetN_, sRaise_, sBrk_, sCnt_, sStore_, fnOf_, iAny_, iR1_, iR2_, iEn_, gN_, gT_, gsN_, gsC_, stepS_, cYes_, lcF_, bT, iP, isTy, tyName, opTup, opLst, opAdd, opII, cDivB, opMul, opOrd, opEq, kD_nn, kD_ii, kD_bb, kD_ss, kD_ni, kD_nb, kD_ns, kD_in, kD_bn, kD_sn, kD_is, kD_si, kD_bs, kD_sb, kD_tuple1, kD_tuple2, kD_list1, kD_list2, kD_ib, kD_bi, opIsN, opIx, opSl, one, fLen, fInt, fAbs, fTup, fList, see, hold, toD, adopt, Rs.bind, Rs.thenS, opStore, expo, itmOf, wipeR, mAppend, mExtend, sAsg_, List.mapM_cons, List.mapM_nil, Option.bind_eq_bind, Option.bind_some, Option.pure_def, List.append_assoc, sz0, sy0, sz1, sy1, sz2, sy2, sz3, sy3, sz4, sy4, sz5, sy5, sz6, sy6, sz7, sy7, sz8, sy8, sz9, sy9, sz10, sy10, sz11, sy11, sz12, sy12, sz13, sy13, sz14, sy14, sz15, sy15, sz16, sy16, sz17, sy17, sz18, sy18, sz19, sy19, sz20, sy20, sz21, sy21, sz22, sy22, sz23, sy23, sz24, sy24, sz25, sy25, sz26, sy26, sz27, sy27, sz28, sy28, sz29, sy29, sz30, sy30, sz31, sy31, sz32, sy32, sz33, sy33, sz34, sy34, sz35, sy35, sz36, sy36, sz37, sy37, sz38, sy38, sz39, sy39, sz40, sy40, sPar3_, iZp_, cIsE_, zipOf, isL, opRepT, opIsB, fMax2, fMin2, mCountB, mIndexB, bools0, bools1, List.getElem?_cons_zero, List.getElem?_cons_succ, List.map_cons, List.map_nil, List.length_cons, List.length_nil, List.cons_append, List.nil_append, List.replicate_succ, List.replicate_zero, List.set_cons_zero, List.set_cons_succ, Nat.zero_add, Nat.reduceAdd, Nat.reduceSub, ↓reduceIte, reduceCtorEq, String.reduceBEq, kb_NoneType_int, kb_NoneType_bool, kb_NoneType_str, kb_NoneType_tuple, kb_NoneType_list, kb_NoneType_dict, kb_bool_int, kb_bool_bool, kb_bool_str, kb_bool_tuple, kb_bool_list, kb_bool_dict, kb_int_int, kb_int_bool, kb_int_str, kb_int_tuple, kb_int_list, kb_int_dict, kb_str_int, kb_str_bool, kb_str_str, kb_str_tuple, kb_str_list, kb_str_dict, kb_list_int, kb_list_bool, kb_list_str, kb_list_tuple, kb_list_list, kb_list_dict, kb_tuple_int, kb_tuple_bool, kb_tuple_str, kb_tuple_tuple, kb_tuple_list, kb_tuple_dict, kb_dict_int, kb_dict_bool, kb_dict_str, kb_dict_tuple, kb_dict_list, kb_dict_dict, String.reduceEq, Int.reduceLT, Int.reduceLE, Int.reduceNeg, Int.reducePow, Nat.reducePow, Int.reduceToNat, Nat.reduceLT, Nat.reduceLeDiff, decide_true, decide_false, and_self, and_true, true_and, or_true, true_or, or_false, false_or, Bool.not_true, Bool.not_false, Bool.true_eq_false, Bool.false_eq_true, Option.map_some, Option.map_none, h, sizedD, riseB, List.take_length]
theorem check_flow_ok (ls gs : List Int) (a b : Int) {x : D} (hx : noDict x = true) (μ : Mem) : F_check_flow [.d (kitD ls gs a b), .d x] μ = if withinD 0 ((ls.length : Nat) - 1) x = true then .ok (.d .none) μ else .ex ⟨"NoFlow", none⟩ μ := by
  have h := within_ok x 0 ((ls.length : Nat) - 1) hx
  by_cases c : withinD 0 ((ls.length : Nat) - 1) x = true
  · simp only [F_check_flow, C_check_flow, kitD, cV_, cK_, cBin_, cCall_, cCons_, cNil_, cH_, cD_, cA_, cT_, cIf_, cAndT_, cOrT_, cNotT_, cAndV_, cOrV_, cNotV_, cChain_, cSl_, cPart_, cNoPart_, cMt_, cIsi_, cNeg_, cFn_, sNil_, sCons_, sIf_, sSet_, sPar_, sExpr_, sRet_, sRetN_, sRaise_, sBrk_, sCnt_, sStore_, fnOf_, iAny_, iR1_, iR2_, iEn_, gN_, gT_, gsN_, gsC_, stepS_, cYes_, lcF_, bT, iP, isTy, tyName, opTup, opLst, opAdd, opII, cDivB, opMul, opOrd, opEq, kD_nn, kD_ii, kD_bb, kD_ss, kD_ni, kD_nb, kD_ns, kD_in, kD_bn, kD_sn, kD_is, kD_si, kD_bs, kD_sb, kD_tuple1, kD_tuple2, kD_list1, kD_list2, kD_ib, kD_bi, opIsN, opIx, opSl, one, fLen, fInt, fAbs, fTup, fList, see, hold, toD, adopt, Rs.bind, Rs.thenS, opStore, expo, itmOf, wipeR, mAppend, mExtend, sAsg_, List.mapM_cons, List.mapM_nil, Option.bind_eq_bind, Option.bind_some, Option.pure_def, List.append_assoc, sz0, sy0, sz1, sy1, sz2, sy2, sz3, sy3, sz4, sy4, sz5, sy5, sz6, sy6, sz7, sy7, sz8, sy8, sz9, sy9, sz10, sy10, sz11, sy11, sz12, sy12, sz13, sy13, sz14, sy14, sz15, sy15, sz16, sy16, sz17, sy17, sz18, sy18, sz19, sy19, sz20, sy20, sz21, sy21, sz22, sy22, sz23, sy23, sz24, sy24, sz25, sy25, sz26, sy26, sz27, sy27, sz28, sy28, sz29, sy29, sz30, sy30, sz31, sy31, sz32, sy32, sz33, sy33, sz34, sy34, sz35, sy35, sz36, sy36, sz37, sy37, sz38, sy38, sz39, sy39, sz40, sy40, sPar3_, iZp_, cIsE_, zipOf, isL, opRepT, opIsB, fMax2, fMin2, mCountB, mIndexB, bools0, bools1, List.getElem?_cons_zero, List.getElem?_cons_succ, List.map_cons, List.map_nil, List.length_cons, List.length_nil, List.cons_append, List.nil_append, List.replicate_succ, List.replicate_zero, List.set_cons_zero, List.set_cons_succ, Nat.zero_add, Nat.reduceAdd, Nat.reduceSub, ↓reduceIte, reduceCtorEq, String.reduceBEq, kb_NoneType_int, kb_NoneType_bool, kb_NoneType_str, kb_NoneType_tuple, kb_NoneType_list, kb_NoneType_dict, kb_bool_int, kb_bool_bool, kb_bool_str, kb_bool_tuple, kb_bool_list, kb_bool_dict, kb_int_int, kb_int_bool, kb_int_str, kb_int_tuple, kb_int_list, kb_int_dict, kb_str_int, kb_str_bool, kb_str_str, kb_str_tuple, kb_str_list, kb_str_dict, kb_list_int, kb_list_bool, kb_list_str, kb_list_tuple, kb_list_list, kb_list_dict, kb_tuple_int, kb_tuple_bool, kb_tuple_str, kb_tuple_tuple, kb_tuple_list, kb_tuple_dict, kb_dict_int, kb_dict_bool, kb_dict_str, kb_dict_tuple, kb_dict_list, kb_dict_dict, String.reduceEq, Int.reduceLT, Int.reduceLE, Int.reduceNeg, Int.reducePow, Nat.reducePow, Int.reduceToNat, Nat.reduceLT, Nat.reduceLeDiff, decide_true, decide_false, and_self, and_true, true_and, or_true, true_or, or_false, false_or, Bool.not_true, Bool.not_false, Bool.true_eq_false, Bool.false_eq_true, Option.map_some, Option.map_none, ix0, List.length_map, h, c, List.take_length]
  · have c' := Bool.eq_false_iff.mpr c
    simp only [F_check_flow, C_check_flow, kitD, cV_, cK_, cBin_, cCall_, cCons_, cNil_, cH_, cD_, cA_, cT_, cIf_, cAndT_, cOrT_, cNotT_, cAndV_, cOrV_, cNotV_, cChain_, cSl_, cPart_, cNoPart_, cMt_, cIsi_, cNeg_, cFn_, sNil_, sCons_, sIf_, sSet_, sPar_, sExpr_, sRet_, sRetN_, sRaise_, sBrk_, sCnt_, sStore_, fnOf_, iAny_, iR1_, iR2_, iEn_, gN_, gT_, gsN_, gsC_, stepS_, cYes_, lcF_, bT, iP, isTy, tyName, opTup, opLst, opAdd, opII, cDivB, opMul, opOrd, opEq, kD_nn, kD_ii, kD_bb, kD_ss, kD_ni, kD_nb, kD_ns, kD_in, kD_bn, kD_sn, kD_is, kD_si, kD_bs, kD_sb, kD_tuple1, kD_tuple2, kD_list1, kD_list2, kD_ib, kD_bi, opIsN, opIx, opSl, one, fLen, fInt, fAbs, fTup, fList, see, hold, toD, adopt, Rs.bind, Rs.thenS, opStore, expo, itmOf, wipeR, mAppend, mExtend, sAsg_, List.mapM_cons, List.mapM_nil, Option.bind_eq_bind, Option.bind_some, Option.pure_def, List.append_assoc, sz0, sy0, sz1, sy1, sz2, sy2, sz3, sy3, sz4, sy4, sz5, sy5, sz6, sy6, sz7, sy7, sz8, sy8, sz9, sy9, sz10, sy10, sz11, sy11, sz12, sy12, sz13, sy13, sz14, sy14, sz15, sy15, sz16, sy16, sz17, sy17, sz18, sy18, sz19, sy19, sz20, sy20, sz21, sy21, sz22, sy22, sz23, sy23, sz24, sy24, sz25, sy25, sz26, sy26, sz27, sy27, sz28, sy28, sz29, sy29, sz30, sy30, sz31, sy31, sz32, sy32, sz33, sy33, sz34, sy34, sz35, sy35, sz36, sy36, sz37, sy37, sz38, sy38, sz39, sy39, sz40, sy40, sPar3_, iZp_, cIsE_, zipOf, isL, opRepT, opIsB, fMax2, fMin2, mCountB, mIndexB, bools0, bools1, List.getElem?_cons_zero, List.getElem?_cons_succ, List.map_cons, List.map_nil, List.length_cons, List.length_nil, List.cons_append, List.nil_append, List.replicate_succ, List.replicate_zero, List.set_cons_zero, List.set_cons_succ, Nat.zero_add, Nat.reduceAdd, Nat.reduceSub, ↓reduceIte, reduceCtorEq, String.reduceBEq, kb_NoneType_int, kb_NoneType_bool, kb_NoneType_str, kb_NoneType_tuple, kb_NoneType_list, kb_NoneType_dict, kb_bool_int, kb_bool_bool, kb_bool_str, kb_bool_tuple, kb_bool_list, kb_bool_dict, kb_int_int, kb_int_bool, kb_int_str, kb_int_tuple, kb_int_list, kb_int_dict, kb_str_int, kb_str_bool, kb_str_str, kb_str_tuple, kb_str_list, kb_str_dict, kb_list_int, kb_list_bool, kb_list_str, kb_list_tuple, kb_list_list, kb_list_dict, kb_tuple_int, kb_tuple_bool, kb_tuple_str, kb_tuple_tuple, kb_tuple_list, kb_tuple_dict, kb_dict_int, kb_dict_bool, kb_dict_str, kb_dict_tuple, kb_dict_list, kb_dict_dict, String.reduceEq, Int.reduceLT, Int.reduceLE, Int.reduceNeg, Int.reducePow, Nat.reducePow, Int.reduceToNat, Nat.reduceLT, Nat.reduceLeDiff, decide_true, decide_false, and_self, and_true, true_and, or_true, true_or, or_false, false_or, Bool.not_true, Bool.not_false, Bool.true_eq_false, Bool.false_eq_true, Option.map_some, Option.map_none, ix0, List.length_map, h, c', List.take_length]
theorem check_due_ok {x : D} (hx : noDict x = true) (μ : Mem) : F_check_pressure [.d x] μ = if withinD 0 1000 x = true then .ok (.d .none) μ else .ex ⟨"NoDue", none⟩ μ := by
  have h := within_ok x 0 1000 hx
  by_cases c : withinD 0 1000 x = true
  · simp only [F_check_pressure, C_check_pressure, cV_, cK_, cBin_, cCall_, cCons_, cNil_, cH_, cD_, cA_, cT_, cIf_, cAndT_, cOrT_, cNotT_, cAndV_, cOrV_, cNotV_, cChain_, cSl_, cPart_, cNoPart_, cMt_, cIsi_, cNeg_, cFn_, sNil_, sCons_, sIf_, sSet_, sPar_, sExpr_, sRet_, sRetN_, sRaise_, sBrk_, sCnt_, sStore_, fnOf_, iAny_, iR1_, iR2_, iEn_, gN_, gT_, gsN_, gsC_, stepS_, cYes_, lcF_, bT, iP, isTy, tyName, opTup, opLst, opAdd, opII, cDivB, opMul, opOrd, opEq, kD_nn, kD_ii, kD_bb, kD_ss, kD_ni, kD_nb, kD_ns, kD_in, kD_bn, kD_sn, kD_is, kD_si, kD_bs, kD_sb, kD_tuple1, kD_tuple2, kD_list1, kD_list2, kD_ib, kD_bi, opIsN, opIx, opSl, one, fLen, fInt, fAbs, fTup, fList, see, hold, toD, adopt, Rs.bind, Rs.thenS, opStore, expo, itmOf, wipeR, mAppend, mExtend, sAsg_, List.mapM_cons, List.mapM_nil, Option.bind_eq_bind, Option.bind_some, Option.pure_def, List.append_assoc, sz0, sy0, sz1, sy1, sz2, sy2, sz3, sy3, sz4, sy4, sz5, sy5, sz6, sy6, sz7, sy7, sz8, sy8, sz9, sy9, sz10, sy10, sz11, sy11, sz12, sy12, sz13, sy13, sz14, sy14, sz15, sy15, sz16, sy16, sz17, sy17, sz18, sy18, sz19, sy19, sz20, sy20, sz21, sy21, sz22, sy22, sz23, sy23, sz24, sy24, sz25, sy25, sz26, sy26, sz27, sy27, sz28, sy28, sz29, sy29, sz30, sy30, sz31, sy31, sz32, sy32, sz33, sy33, sz34, sy34, sz35, sy35, sz36, sy36, sz37, sy37, sz38, sy38, sz39, sy39, sz40, sy40, sPar3_, iZp_, cIsE_, zipOf, isL, opRepT, opIsB, fMax2, fMin2, mCountB, mIndexB, bools0, bools1, List.getElem?_cons_zero, List.getElem?_cons_succ, List.map_cons, List.map_nil, List.length_cons, List.length_nil, List.cons_append, List.nil_append, List.replicate_succ, List.replicate_zero, List.set_cons_zero, List.set_cons_succ, Nat.zero_add, Nat.reduceAdd, Nat.reduceSub, ↓reduceIte, reduceCtorEq, String.reduceBEq, kb_NoneType_int, kb_NoneType_bool, kb_NoneType_str, kb_NoneType_tuple, kb_NoneType_list, kb_NoneType_dict, kb_bool_int, kb_bool_bool, kb_bool_str, kb_bool_tuple, kb_bool_list, kb_bool_dict, kb_int_int, kb_int_bool, kb_int_str, kb_int_tuple, kb_int_list, kb_int_dict, kb_str_int, kb_str_bool, kb_str_str, kb_str_tuple, kb_str_list, kb_str_dict, kb_list_int, kb_list_bool, kb_list_str, kb_list_tuple, kb_list_list, kb_list_dict, kb_tuple_int, kb_tuple_bool, kb_tuple_str, kb_tuple_tuple, kb_tuple_list, kb_tuple_dict, kb_dict_int, kb_dict_bool, kb_dict_str, kb_dict_tuple, kb_dict_list, kb_dict_dict, String.reduceEq, Int.reduceLT, Int.reduceLE, Int.reduceNeg, Int.reducePow, Nat.reducePow, Int.reduceToNat, Nat.reduceLT, Nat.reduceLeDiff, decide_true, decide_false, and_self, and_true, true_and, or_true, true_or, or_false, false_or, Bool.not_true, Bool.not_false, Bool.true_eq_false, Bool.false_eq_true, Option.map_some, Option.map_none, h, c, List.take_length]
  · have c' := Bool.eq_false_iff.mpr c
    simp only [F_check_pressure, C_check_pressure, cV_, cK_, cBin_, cCall_, cCons_, cNil_, cH_, cD_, cA_, cT_, cIf_, cAndT_, cOrT_, cNotT_, cAndV_, cOrV_, cNotV_, cChain_, cSl_, cPart_, cNoPart_, cMt_, cIsi_, cNeg_, cFn_, sNil_, sCons_, sIf_, sSet_, sPar_, sExpr_, sRet_, sRetN_, sRaise_, sBrk_, sCnt_, sStore_, fnOf_, iAny_, iR1_, iR2_, iEn_, gN_, gT_, gsN_, gsC_, stepS_, cYes_, lcF_, bT, iP, isTy, tyName, opTup, opLst, opAdd, opII, cDivB, opMul, opOrd, opEq, kD_nn, kD_ii, kD_bb, kD_ss, kD_ni, kD_nb, kD_ns, kD_in, kD_bn, kD_sn, kD_is, kD_si, kD_bs, kD_sb, kD_tuple1, kD_tuple2, kD_list1, kD_list2, kD_ib, kD_bi, opIsN, opIx, opSl, one, fLen, fInt, fAbs, fTup, fList, see, hold, toD, adopt, Rs.bind, Rs.thenS, opStore, expo, itmOf, wipeR, mAppend, mExtend, sAsg_, List.mapM_cons, List.mapM_nil, Option.bind_eq_bind, Option.bind_some, Option.pure_def, List.append_assoc, sz0, sy0, sz1, sy1, sz2, sy2, sz3, sy3, sz4, sy4, sz5, sy5, sz6, sy6, sz7, sy7, sz8, sy8, sz9, sy9, sz10, sy10, sz11, sy11, sz12, sy12, sz13, sy13, sz14, sy14, sz15, sy15, sz16, sy16, sz17, sy17, sz18, sy18, sz19, sy19, sz20, sy20, sz21, sy21, sz22, sy22, sz23, sy23, sz24, sy24, sz25, sy25, sz26, sy26, sz27, sy27, sz28, sy28, sz29, sy29, sz30, sy30, sz31, sy31, sz32, sy32, sz33, sy33, sz34, sy34, sz35, sy35, sz36, sy36, sz37, sy37, sz38, sy38, sz39, sy39, sz40, sy40, sPar3_, iZp_, cIsE_, zipOf, isL, opRepT, opIsB, fMax2, fMin2, mCountB, mIndexB, bools0, bools1, List.getElem?_cons_zero, List.getElem?_cons_succ, List.map_cons, List.map_nil, List.length_cons, List.length_nil, List.cons_append, List.nil_append, List.replicate_succ, List.replicate_zero, List.set_cons_zero, List.set_cons_succ, Nat.zero_add, Nat.reduceAdd, Nat.reduceSub, ↓reduceIte, reduceCtorEq, String.reduceBEq, kb_NoneType_int, kb_NoneType_bool, kb_NoneType_str, kb_NoneType_tuple, kb_NoneType_list, kb_NoneType_dict, kb_bool_int, kb_bool_bool, kb_bool_str, kb_bool_tuple, kb_bool_list, kb_bool_dict, kb_int_int, kb_int_bool, kb_int_str, kb_int_tuple, kb_int_list, kb_int_dict, kb_str_int, kb_str_bool, kb_str_str, kb_str_tuple, kb_str_list, kb_str_dict, kb_list_int, kb_list_bool, kb_list_str, kb_list_tuple, kb_list_list, kb_list_dict, kb_tuple_int, kb_tuple_bool, kb_tuple_str, kb_tuple_tuple, kb_tuple_list, kb_tuple_dict, kb_dict_int, kb_dict_bool, kb_dict_str, kb_dict_tuple, kb_dict_list, kb_dict_dict, String.reduceEq, Int.reduceLT, Int.reduceLE, Int.reduceNeg, Int.reducePow, Nat.reducePow, Int.reduceToNat, Nat.reduceLT, Nat.reduceLeDiff, decide_true, decide_false, and_self, and_true, true_and, or_true, true_or, or_false, false_or, Bool.not_true, Bool.not_false, Bool.true_eq_false, Bool.false_eq_true, Option.map_some, Option.map_none, h, c', List.take_length]
/-! a line of kit, rises, flow -/
theorem line_kit {x r f : D} (h : ∀ μ, F_is_kit [.d x] μ = .ok (.d (.bool false)) μ) (μ : Mem) : F_check_line_of [.d x, .d r, .d f] μ = .ex ⟨"NoKit", none⟩ μ := by
  simp only [F_check_line_of, C_check_line_of, cV_, cK_, cBin_, cCall_, cCons_, cNil_, cH_, cD_, cA_, cT_, cIf_, cAndT_, cOrT_, cNotT_, cAndV_, cOrV_, cNotV_, cChain_, cSl_, cPart_, cNoPart_, cMt_, cIsi_, cNeg_, cFn_, sNil_, sCons_, sIf_, sSet_, sPar_, sExpr_, sRet_, sRetN_, sRaise_, sBrk_, sCnt_, sStore_, fnOf_, iAny_, iR1_, iR2_, iEn_, gN_, gT_, gsN_, gsC_, stepS_, cYes_, lcF_, bT, iP, isTy, tyName, opTup, opLst, opAdd, opII, cDivB, opMul, opOrd, opEq, kD_nn, kD_ii, kD_bb, kD_ss, kD_ni, kD_nb, kD_ns, kD_in, kD_bn, kD_sn, kD_is, kD_si, kD_bs, kD_sb, kD_tuple1, kD_tuple2, kD_list1, kD_list2, kD_ib, kD_bi, opIsN, opIx, opSl, one, fLen, fInt, fAbs, fTup, fList, see, hold, toD, adopt, Rs.bind, Rs.thenS, opStore, expo, itmOf, wipeR, mAppend, mExtend, sAsg_, List.mapM_cons, List.mapM_nil, Option.bind_eq_bind, Option.bind_some, Option.pure_def, List.append_assoc, sz0, sy0, sz1, sy1, sz2, sy2, sz3, sy3, sz4, sy4, sz5, sy5, sz6, sy6, sz7, sy7, sz8, sy8, sz9, sy9, sz10, sy10, sz11, sy11, sz12, sy12, sz13, sy13, sz14, sy14, sz15, sy15, sz16, sy16, sz17, sy17, sz18, sy18, sz19, sy19, sz20, sy20, sz21, sy21, sz22, sy22, sz23, sy23, sz24, sy24, sz25, sy25, sz26, sy26, sz27, sy27, sz28, sy28, sz29, sy29, sz30, sy30, sz31, sy31, sz32, sy32, sz33, sy33, sz34, sy34, sz35, sy35, sz36, sy36, sz37, sy37, sz38, sy38, sz39, sy39, sz40, sy40, sPar3_, iZp_, cIsE_, zipOf, isL, opRepT, opIsB, fMax2, fMin2, mCountB, mIndexB, bools0, bools1, List.getElem?_cons_zero, List.getElem?_cons_succ, List.map_cons, List.map_nil, List.length_cons, List.length_nil, List.cons_append, List.nil_append, List.replicate_succ, List.replicate_zero, List.set_cons_zero, List.set_cons_succ, Nat.zero_add, Nat.reduceAdd, Nat.reduceSub, ↓reduceIte, reduceCtorEq, String.reduceBEq, kb_NoneType_int, kb_NoneType_bool, kb_NoneType_str, kb_NoneType_tuple, kb_NoneType_list, kb_NoneType_dict, kb_bool_int, kb_bool_bool, kb_bool_str, kb_bool_tuple, kb_bool_list, kb_bool_dict, kb_int_int, kb_int_bool, kb_int_str, kb_int_tuple, kb_int_list, kb_int_dict, kb_str_int, kb_str_bool, kb_str_str, kb_str_tuple, kb_str_list, kb_str_dict, kb_list_int, kb_list_bool, kb_list_str, kb_list_tuple, kb_list_list, kb_list_dict, kb_tuple_int, kb_tuple_bool, kb_tuple_str, kb_tuple_tuple, kb_tuple_list, kb_tuple_dict, kb_dict_int, kb_dict_bool, kb_dict_str, kb_dict_tuple, kb_dict_list, kb_dict_dict, String.reduceEq, Int.reduceLT, Int.reduceLE, Int.reduceNeg, Int.reducePow, Nat.reducePow, Int.reduceToNat, Nat.reduceLT, Nat.reduceLeDiff, decide_true, decide_false, and_self, and_true, true_and, or_true, true_or, or_false, false_or, Bool.not_true, Bool.not_false, Bool.true_eq_false, Bool.false_eq_true, Option.map_some, Option.map_none, check_kit_bad h, List.take_length]
theorem line_rises {x r f : D} (h : ∀ μ, F_is_kit [.d x] μ = .ok (.d (.bool true)) μ) (hr : nd2 r) (hb : riseB r = false) (μ : Mem) : F_check_line_of [.d x, .d r, .d f] μ = .ex ⟨"NoRises", none⟩ μ := by
  have e := check_rises_ok hr
  simp only [hb, Bool.false_eq_true, if_false] at e
  simp only [F_check_line_of, C_check_line_of, cV_, cK_, cBin_, cCall_, cCons_, cNil_, cH_, cD_, cA_, cT_, cIf_, cAndT_, cOrT_, cNotT_, cAndV_, cOrV_, cNotV_, cChain_, cSl_, cPart_, cNoPart_, cMt_, cIsi_, cNeg_, cFn_, sNil_, sCons_, sIf_, sSet_, sPar_, sExpr_, sRet_, sRetN_, sRaise_, sBrk_, sCnt_, sStore_, fnOf_, iAny_, iR1_, iR2_, iEn_, gN_, gT_, gsN_, gsC_, stepS_, cYes_, lcF_, bT, iP, isTy, tyName, opTup, opLst, opAdd, opII, cDivB, opMul, opOrd, opEq, kD_nn, kD_ii, kD_bb, kD_ss, kD_ni, kD_nb, kD_ns, kD_in, kD_bn, kD_sn, kD_is, kD_si, kD_bs, kD_sb, kD_tuple1, kD_tuple2, kD_list1, kD_list2, kD_ib, kD_bi, opIsN, opIx, opSl, one, fLen, fInt, fAbs, fTup, fList, see, hold, toD, adopt, Rs.bind, Rs.thenS, opStore, expo, itmOf, wipeR, mAppend, mExtend, sAsg_, List.mapM_cons, List.mapM_nil, Option.bind_eq_bind, Option.bind_some, Option.pure_def, List.append_assoc, sz0, sy0, sz1, sy1, sz2, sy2, sz3, sy3, sz4, sy4, sz5, sy5, sz6, sy6, sz7, sy7, sz8, sy8, sz9, sy9, sz10, sy10, sz11, sy11, sz12, sy12, sz13, sy13, sz14, sy14, sz15, sy15, sz16, sy16, sz17, sy17, sz18, sy18, sz19, sy19, sz20, sy20, sz21, sy21, sz22, sy22, sz23, sy23, sz24, sy24, sz25, sy25, sz26, sy26, sz27, sy27, sz28, sy28, sz29, sy29, sz30, sy30, sz31, sy31, sz32, sy32, sz33, sy33, sz34, sy34, sz35, sy35, sz36, sy36, sz37, sy37, sz38, sy38, sz39, sy39, sz40, sy40, sPar3_, iZp_, cIsE_, zipOf, isL, opRepT, opIsB, fMax2, fMin2, mCountB, mIndexB, bools0, bools1, List.getElem?_cons_zero, List.getElem?_cons_succ, List.map_cons, List.map_nil, List.length_cons, List.length_nil, List.cons_append, List.nil_append, List.replicate_succ, List.replicate_zero, List.set_cons_zero, List.set_cons_succ, Nat.zero_add, Nat.reduceAdd, Nat.reduceSub, ↓reduceIte, reduceCtorEq, String.reduceBEq, kb_NoneType_int, kb_NoneType_bool, kb_NoneType_str, kb_NoneType_tuple, kb_NoneType_list, kb_NoneType_dict, kb_bool_int, kb_bool_bool, kb_bool_str, kb_bool_tuple, kb_bool_list, kb_bool_dict, kb_int_int, kb_int_bool, kb_int_str, kb_int_tuple, kb_int_list, kb_int_dict, kb_str_int, kb_str_bool, kb_str_str, kb_str_tuple, kb_str_list, kb_str_dict, kb_list_int, kb_list_bool, kb_list_str, kb_list_tuple, kb_list_list, kb_list_dict, kb_tuple_int, kb_tuple_bool, kb_tuple_str, kb_tuple_tuple, kb_tuple_list, kb_tuple_dict, kb_dict_int, kb_dict_bool, kb_dict_str, kb_dict_tuple, kb_dict_list, kb_dict_dict, String.reduceEq, Int.reduceLT, Int.reduceLE, Int.reduceNeg, Int.reducePow, Nat.reducePow, Int.reduceToNat, Nat.reduceLT, Nat.reduceLeDiff, decide_true, decide_false, and_self, and_true, true_and, or_true, true_or, or_false, false_or, Bool.not_true, Bool.not_false, Bool.true_eq_false, Bool.false_eq_true, Option.map_some, Option.map_none, check_kit_ok h, e, List.take_length]
theorem line_flow {ls gs : List Int} {a b : Int} {r f : D} (h : ∀ μ, F_is_kit [.d (kitD ls gs a b)] μ = .ok (.d (.bool true)) μ) (hr : nd2 r) (hb : riseB r = true) (hf : noDict f = true) (μ : Mem) : F_check_line_of [.d (kitD ls gs a b), .d r, .d f] μ = if withinD 0 ((ls.length : Nat) - 1) f = true then .ok (.d .none) μ else .ex ⟨"NoFlow", none⟩ μ := by
  have e := check_rises_ok hr
  simp only [hb, if_true] at e
  have e2 := check_flow_ok ls gs a b hf
  by_cases c : withinD 0 ((ls.length : Nat) - 1) f = true
  · simp only [F_check_line_of, C_check_line_of, cV_, cK_, cBin_, cCall_, cCons_, cNil_, cH_, cD_, cA_, cT_, cIf_, cAndT_, cOrT_, cNotT_, cAndV_, cOrV_, cNotV_, cChain_, cSl_, cPart_, cNoPart_, cMt_, cIsi_, cNeg_, cFn_, sNil_, sCons_, sIf_, sSet_, sPar_, sExpr_, sRet_, sRetN_, sRaise_, sBrk_, sCnt_, sStore_, fnOf_, iAny_, iR1_, iR2_, iEn_, gN_, gT_, gsN_, gsC_, stepS_, cYes_, lcF_, bT, iP, isTy, tyName, opTup, opLst, opAdd, opII, cDivB, opMul, opOrd, opEq, kD_nn, kD_ii, kD_bb, kD_ss, kD_ni, kD_nb, kD_ns, kD_in, kD_bn, kD_sn, kD_is, kD_si, kD_bs, kD_sb, kD_tuple1, kD_tuple2, kD_list1, kD_list2, kD_ib, kD_bi, opIsN, opIx, opSl, one, fLen, fInt, fAbs, fTup, fList, see, hold, toD, adopt, Rs.bind, Rs.thenS, opStore, expo, itmOf, wipeR, mAppend, mExtend, sAsg_, List.mapM_cons, List.mapM_nil, Option.bind_eq_bind, Option.bind_some, Option.pure_def, List.append_assoc, sz0, sy0, sz1, sy1, sz2, sy2, sz3, sy3, sz4, sy4, sz5, sy5, sz6, sy6, sz7, sy7, sz8, sy8, sz9, sy9, sz10, sy10, sz11, sy11, sz12, sy12, sz13, sy13, sz14, sy14, sz15, sy15, sz16, sy16, sz17, sy17, sz18, sy18, sz19, sy19, sz20, sy20, sz21, sy21, sz22, sy22, sz23, sy23, sz24, sy24, sz25, sy25, sz26, sy26, sz27, sy27, sz28, sy28, sz29, sy29, sz30, sy30, sz31, sy31, sz32, sy32, sz33, sy33, sz34, sy34, sz35, sy35, sz36, sy36, sz37, sy37, sz38, sy38, sz39, sy39, sz40, sy40, sPar3_, iZp_, cIsE_, zipOf, isL, opRepT, opIsB, fMax2, fMin2, mCountB, mIndexB, bools0, bools1, List.getElem?_cons_zero, List.getElem?_cons_succ, List.map_cons, List.map_nil, List.length_cons, List.length_nil, List.cons_append, List.nil_append, List.replicate_succ, List.replicate_zero, List.set_cons_zero, List.set_cons_succ, Nat.zero_add, Nat.reduceAdd, Nat.reduceSub, ↓reduceIte, reduceCtorEq, String.reduceBEq, kb_NoneType_int, kb_NoneType_bool, kb_NoneType_str, kb_NoneType_tuple, kb_NoneType_list, kb_NoneType_dict, kb_bool_int, kb_bool_bool, kb_bool_str, kb_bool_tuple, kb_bool_list, kb_bool_dict, kb_int_int, kb_int_bool, kb_int_str, kb_int_tuple, kb_int_list, kb_int_dict, kb_str_int, kb_str_bool, kb_str_str, kb_str_tuple, kb_str_list, kb_str_dict, kb_list_int, kb_list_bool, kb_list_str, kb_list_tuple, kb_list_list, kb_list_dict, kb_tuple_int, kb_tuple_bool, kb_tuple_str, kb_tuple_tuple, kb_tuple_list, kb_tuple_dict, kb_dict_int, kb_dict_bool, kb_dict_str, kb_dict_tuple, kb_dict_list, kb_dict_dict, String.reduceEq, Int.reduceLT, Int.reduceLE, Int.reduceNeg, Int.reducePow, Nat.reducePow, Int.reduceToNat, Nat.reduceLT, Nat.reduceLeDiff, decide_true, decide_false, and_self, and_true, true_and, or_true, true_or, or_false, false_or, Bool.not_true, Bool.not_false, Bool.true_eq_false, Bool.false_eq_true, Option.map_some, Option.map_none, check_kit_ok h, e, e2, c, List.take_length]
  · have c' := Bool.eq_false_iff.mpr c
    simp only [F_check_line_of, C_check_line_of, cV_, cK_, cBin_, cCall_, cCons_, cNil_, cH_, cD_, cA_, cT_, cIf_, cAndT_, cOrT_, cNotT_, cAndV_, cOrV_, cNotV_, cChain_, cSl_, cPart_, cNoPart_, cMt_, cIsi_, cNeg_, cFn_, sNil_, sCons_, sIf_, sSet_, sPar_, sExpr_, sRet_, sRetN_, sRaise_, sBrk_, sCnt_, sStore_, fnOf_, iAny_, iR1_, iR2_, iEn_, gN_, gT_, gsN_, gsC_, stepS_, cYes_, lcF_, bT, iP, isTy, tyName, opTup, opLst, opAdd, opII, cDivB, opMul, opOrd, opEq, kD_nn, kD_ii, kD_bb, kD_ss, kD_ni, kD_nb, kD_ns, kD_in, kD_bn, kD_sn, kD_is, kD_si, kD_bs, kD_sb, kD_tuple1, kD_tuple2, kD_list1, kD_list2, kD_ib, kD_bi, opIsN, opIx, opSl, one, fLen, fInt, fAbs, fTup, fList, see, hold, toD, adopt, Rs.bind, Rs.thenS, opStore, expo, itmOf, wipeR, mAppend, mExtend, sAsg_, List.mapM_cons, List.mapM_nil, Option.bind_eq_bind, Option.bind_some, Option.pure_def, List.append_assoc, sz0, sy0, sz1, sy1, sz2, sy2, sz3, sy3, sz4, sy4, sz5, sy5, sz6, sy6, sz7, sy7, sz8, sy8, sz9, sy9, sz10, sy10, sz11, sy11, sz12, sy12, sz13, sy13, sz14, sy14, sz15, sy15, sz16, sy16, sz17, sy17, sz18, sy18, sz19, sy19, sz20, sy20, sz21, sy21, sz22, sy22, sz23, sy23, sz24, sy24, sz25, sy25, sz26, sy26, sz27, sy27, sz28, sy28, sz29, sy29, sz30, sy30, sz31, sy31, sz32, sy32, sz33, sy33, sz34, sy34, sz35, sy35, sz36, sy36, sz37, sy37, sz38, sy38, sz39, sy39, sz40, sy40, sPar3_, iZp_, cIsE_, zipOf, isL, opRepT, opIsB, fMax2, fMin2, mCountB, mIndexB, bools0, bools1, List.getElem?_cons_zero, List.getElem?_cons_succ, List.map_cons, List.map_nil, List.length_cons, List.length_nil, List.cons_append, List.nil_append, List.replicate_succ, List.replicate_zero, List.set_cons_zero, List.set_cons_succ, Nat.zero_add, Nat.reduceAdd, Nat.reduceSub, ↓reduceIte, reduceCtorEq, String.reduceBEq, kb_NoneType_int, kb_NoneType_bool, kb_NoneType_str, kb_NoneType_tuple, kb_NoneType_list, kb_NoneType_dict, kb_bool_int, kb_bool_bool, kb_bool_str, kb_bool_tuple, kb_bool_list, kb_bool_dict, kb_int_int, kb_int_bool, kb_int_str, kb_int_tuple, kb_int_list, kb_int_dict, kb_str_int, kb_str_bool, kb_str_str, kb_str_tuple, kb_str_list, kb_str_dict, kb_list_int, kb_list_bool, kb_list_str, kb_list_tuple, kb_list_list, kb_list_dict, kb_tuple_int, kb_tuple_bool, kb_tuple_str, kb_tuple_tuple, kb_tuple_list, kb_tuple_dict, kb_dict_int, kb_dict_bool, kb_dict_str, kb_dict_tuple, kb_dict_list, kb_dict_dict, String.reduceEq, Int.reduceLT, Int.reduceLE, Int.reduceNeg, Int.reducePow, Nat.reducePow, Int.reduceToNat, Nat.reduceLT, Nat.reduceLeDiff, decide_true, decide_false, and_self, and_true, true_and, or_true, true_or, or_false, false_or, Bool.not_true, Bool.not_false, Bool.true_eq_false, Bool.false_eq_true, Option.map_some, Option.map_none, check_kit_ok h, e, e2, c', List.take_length]
/-! stretch_told -/
theorem told_line {x r f i j due : D} {e : Ex} (h : ∀ μ, F_check_line_of [.d x, .d r, .d f] μ = .ex e μ) (μ : Mem) : F_stretch_told [.d x, .d r, .d f, .d i, .d j, .d due] μ = .ex e μ := by
  simp only [F_stretch_told, C_stretch_told, cV_, cK_, cBin_, cCall_, cCons_, cNil_, cH_, cD_, cA_, cT_, cIf_, cAndT_, cOrT_, cNotT_, cAndV_, cOrV_, cNotV_, cChain_, cSl_, cPart_, cNoPart_, cMt_, cIsi_, cNeg_, cFn_, sNil_, sCons_, sIf_, sSet_, sPar_, sExpr_, sRet_, sRetN_, sRaise_, sBrk_, sCnt_, sStore_, fnOf_, iAny_, iR1_, iR2_, iEn_, gN_, gT_, gsN_, gsC_, stepS_, cYes_, lcF_, bT, iP, isTy, tyName, opTup, opLst, opAdd, opII, cDivB, opMul, opOrd, opEq, kD_nn, kD_ii, kD_bb, kD_ss, kD_ni, kD_nb, kD_ns, kD_in, kD_bn, kD_sn, kD_is, kD_si, kD_bs, kD_sb, kD_tuple1, kD_tuple2, kD_list1, kD_list2, kD_ib, kD_bi, opIsN, opIx, opSl, one, fLen, fInt, fAbs, fTup, fList, see, hold, toD, adopt, Rs.bind, Rs.thenS, opStore, expo, itmOf, wipeR, mAppend, mExtend, sAsg_, List.mapM_cons, List.mapM_nil, Option.bind_eq_bind, Option.bind_some, Option.pure_def, List.append_assoc, sz0, sy0, sz1, sy1, sz2, sy2, sz3, sy3, sz4, sy4, sz5, sy5, sz6, sy6, sz7, sy7, sz8, sy8, sz9, sy9, sz10, sy10, sz11, sy11, sz12, sy12, sz13, sy13, sz14, sy14, sz15, sy15, sz16, sy16, sz17, sy17, sz18, sy18, sz19, sy19, sz20, sy20, sz21, sy21, sz22, sy22, sz23, sy23, sz24, sy24, sz25, sy25, sz26, sy26, sz27, sy27, sz28, sy28, sz29, sy29, sz30, sy30, sz31, sy31, sz32, sy32, sz33, sy33, sz34, sy34, sz35, sy35, sz36, sy36, sz37, sy37, sz38, sy38, sz39, sy39, sz40, sy40, sPar3_, iZp_, cIsE_, zipOf, isL, opRepT, opIsB, fMax2, fMin2, mCountB, mIndexB, bools0, bools1, List.getElem?_cons_zero, List.getElem?_cons_succ, List.map_cons, List.map_nil, List.length_cons, List.length_nil, List.cons_append, List.nil_append, List.replicate_succ, List.replicate_zero, List.set_cons_zero, List.set_cons_succ, Nat.zero_add, Nat.reduceAdd, Nat.reduceSub, ↓reduceIte, reduceCtorEq, String.reduceBEq, kb_NoneType_int, kb_NoneType_bool, kb_NoneType_str, kb_NoneType_tuple, kb_NoneType_list, kb_NoneType_dict, kb_bool_int, kb_bool_bool, kb_bool_str, kb_bool_tuple, kb_bool_list, kb_bool_dict, kb_int_int, kb_int_bool, kb_int_str, kb_int_tuple, kb_int_list, kb_int_dict, kb_str_int, kb_str_bool, kb_str_str, kb_str_tuple, kb_str_list, kb_str_dict, kb_list_int, kb_list_bool, kb_list_str, kb_list_tuple, kb_list_list, kb_list_dict, kb_tuple_int, kb_tuple_bool, kb_tuple_str, kb_tuple_tuple, kb_tuple_list, kb_tuple_dict, kb_dict_int, kb_dict_bool, kb_dict_str, kb_dict_tuple, kb_dict_list, kb_dict_dict, String.reduceEq, Int.reduceLT, Int.reduceLE, Int.reduceNeg, Int.reducePow, Nat.reducePow, Int.reduceToNat, Nat.reduceLT, Nat.reduceLeDiff, decide_true, decide_false, and_self, and_true, true_and, or_true, true_or, or_false, false_or, Bool.not_true, Bool.not_false, Bool.true_eq_false, Bool.false_eq_true, Option.map_some, Option.map_none, h, List.take_length]
theorem told_spot1 {x f i j due : D} {rs : List D} (h : ∀ μ, F_check_line_of [.d x, .d (.tuple rs), .d f] μ = .ok (.d .none) μ) (hi : noDict i = true) (hb : withinD 0 ((rs.length : Nat) - 1) i = false) (μ : Mem) : F_stretch_told [.d x, .d (.tuple rs), .d f, .d i, .d j, .d due] μ = .ex ⟨"NoSpot", none⟩ μ := by
  have e := within_ok i 0 ((rs.length : Nat) - 1) hi
  simp only [F_stretch_told, C_stretch_told, cV_, cK_, cBin_, cCall_, cCons_, cNil_, cH_, cD_, cA_, cT_, cIf_, cAndT_, cOrT_, cNotT_, cAndV_, cOrV_, cNotV_, cChain_, cSl_, cPart_, cNoPart_, cMt_, cIsi_, cNeg_, cFn_, sNil_, sCons_, sIf_, sSet_, sPar_, sExpr_, sRet_, sRetN_, sRaise_, sBrk_, sCnt_, sStore_, fnOf_, iAny_, iR1_, iR2_, iEn_, gN_, gT_, gsN_, gsC_, stepS_, cYes_, lcF_, bT, iP, isTy, tyName, opTup, opLst, opAdd, opII, cDivB, opMul, opOrd, opEq, kD_nn, kD_ii, kD_bb, kD_ss, kD_ni, kD_nb, kD_ns, kD_in, kD_bn, kD_sn, kD_is, kD_si, kD_bs, kD_sb, kD_tuple1, kD_tuple2, kD_list1, kD_list2, kD_ib, kD_bi, opIsN, opIx, opSl, one, fLen, fInt, fAbs, fTup, fList, see, hold, toD, adopt, Rs.bind, Rs.thenS, opStore, expo, itmOf, wipeR, mAppend, mExtend, sAsg_, List.mapM_cons, List.mapM_nil, Option.bind_eq_bind, Option.bind_some, Option.pure_def, List.append_assoc, sz0, sy0, sz1, sy1, sz2, sy2, sz3, sy3, sz4, sy4, sz5, sy5, sz6, sy6, sz7, sy7, sz8, sy8, sz9, sy9, sz10, sy10, sz11, sy11, sz12, sy12, sz13, sy13, sz14, sy14, sz15, sy15, sz16, sy16, sz17, sy17, sz18, sy18, sz19, sy19, sz20, sy20, sz21, sy21, sz22, sy22, sz23, sy23, sz24, sy24, sz25, sy25, sz26, sy26, sz27, sy27, sz28, sy28, sz29, sy29, sz30, sy30, sz31, sy31, sz32, sy32, sz33, sy33, sz34, sy34, sz35, sy35, sz36, sy36, sz37, sy37, sz38, sy38, sz39, sy39, sz40, sy40, sPar3_, iZp_, cIsE_, zipOf, isL, opRepT, opIsB, fMax2, fMin2, mCountB, mIndexB, bools0, bools1, List.getElem?_cons_zero, List.getElem?_cons_succ, List.map_cons, List.map_nil, List.length_cons, List.length_nil, List.cons_append, List.nil_append, List.replicate_succ, List.replicate_zero, List.set_cons_zero, List.set_cons_succ, Nat.zero_add, Nat.reduceAdd, Nat.reduceSub, ↓reduceIte, reduceCtorEq, String.reduceBEq, kb_NoneType_int, kb_NoneType_bool, kb_NoneType_str, kb_NoneType_tuple, kb_NoneType_list, kb_NoneType_dict, kb_bool_int, kb_bool_bool, kb_bool_str, kb_bool_tuple, kb_bool_list, kb_bool_dict, kb_int_int, kb_int_bool, kb_int_str, kb_int_tuple, kb_int_list, kb_int_dict, kb_str_int, kb_str_bool, kb_str_str, kb_str_tuple, kb_str_list, kb_str_dict, kb_list_int, kb_list_bool, kb_list_str, kb_list_tuple, kb_list_list, kb_list_dict, kb_tuple_int, kb_tuple_bool, kb_tuple_str, kb_tuple_tuple, kb_tuple_list, kb_tuple_dict, kb_dict_int, kb_dict_bool, kb_dict_str, kb_dict_tuple, kb_dict_list, kb_dict_dict, String.reduceEq, Int.reduceLT, Int.reduceLE, Int.reduceNeg, Int.reducePow, Nat.reducePow, Int.reduceToNat, Nat.reduceLT, Nat.reduceLeDiff, decide_true, decide_false, and_self, and_true, true_and, or_true, true_or, or_false, false_or, Bool.not_true, Bool.not_false, Bool.true_eq_false, Bool.false_eq_true, Option.map_some, Option.map_none, h, e, hb, List.take_length]
theorem told_spot2 {x f j due : D} {i : Int} {rs : List D} (h : ∀ μ, F_check_line_of [.d x, .d (.tuple rs), .d f] μ = .ok (.d .none) μ) (hb : withinD 0 ((rs.length : Nat) - 1) (.int i) = true) (hj : noDict j = true) (hb2 : withinD (i + 1) ((rs.length : Nat) : Int) j = false) (μ : Mem) : F_stretch_told [.d x, .d (.tuple rs), .d f, .d (.int i), .d j, .d due] μ = .ex ⟨"NoSpot", none⟩ μ := by
  have e := within_ok (.int i) 0 ((rs.length : Nat) - 1) rfl
  have e2 := within_ok j (i + 1) ((rs.length : Nat) : Int) hj
  simp only [F_stretch_told, C_stretch_told, cV_, cK_, cBin_, cCall_, cCons_, cNil_, cH_, cD_, cA_, cT_, cIf_, cAndT_, cOrT_, cNotT_, cAndV_, cOrV_, cNotV_, cChain_, cSl_, cPart_, cNoPart_, cMt_, cIsi_, cNeg_, cFn_, sNil_, sCons_, sIf_, sSet_, sPar_, sExpr_, sRet_, sRetN_, sRaise_, sBrk_, sCnt_, sStore_, fnOf_, iAny_, iR1_, iR2_, iEn_, gN_, gT_, gsN_, gsC_, stepS_, cYes_, lcF_, bT, iP, isTy, tyName, opTup, opLst, opAdd, opII, cDivB, opMul, opOrd, opEq, kD_nn, kD_ii, kD_bb, kD_ss, kD_ni, kD_nb, kD_ns, kD_in, kD_bn, kD_sn, kD_is, kD_si, kD_bs, kD_sb, kD_tuple1, kD_tuple2, kD_list1, kD_list2, kD_ib, kD_bi, opIsN, opIx, opSl, one, fLen, fInt, fAbs, fTup, fList, see, hold, toD, adopt, Rs.bind, Rs.thenS, opStore, expo, itmOf, wipeR, mAppend, mExtend, sAsg_, List.mapM_cons, List.mapM_nil, Option.bind_eq_bind, Option.bind_some, Option.pure_def, List.append_assoc, sz0, sy0, sz1, sy1, sz2, sy2, sz3, sy3, sz4, sy4, sz5, sy5, sz6, sy6, sz7, sy7, sz8, sy8, sz9, sy9, sz10, sy10, sz11, sy11, sz12, sy12, sz13, sy13, sz14, sy14, sz15, sy15, sz16, sy16, sz17, sy17, sz18, sy18, sz19, sy19, sz20, sy20, sz21, sy21, sz22, sy22, sz23, sy23, sz24, sy24, sz25, sy25, sz26, sy26, sz27, sy27, sz28, sy28, sz29, sy29, sz30, sy30, sz31, sy31, sz32, sy32, sz33, sy33, sz34, sy34, sz35, sy35, sz36, sy36, sz37, sy37, sz38, sy38, sz39, sy39, sz40, sy40, sPar3_, iZp_, cIsE_, zipOf, isL, opRepT, opIsB, fMax2, fMin2, mCountB, mIndexB, bools0, bools1, List.getElem?_cons_zero, List.getElem?_cons_succ, List.map_cons, List.map_nil, List.length_cons, List.length_nil, List.cons_append, List.nil_append, List.replicate_succ, List.replicate_zero, List.set_cons_zero, List.set_cons_succ, Nat.zero_add, Nat.reduceAdd, Nat.reduceSub, ↓reduceIte, reduceCtorEq, String.reduceBEq, kb_NoneType_int, kb_NoneType_bool, kb_NoneType_str, kb_NoneType_tuple, kb_NoneType_list, kb_NoneType_dict, kb_bool_int, kb_bool_bool, kb_bool_str, kb_bool_tuple, kb_bool_list, kb_bool_dict, kb_int_int, kb_int_bool, kb_int_str, kb_int_tuple, kb_int_list, kb_int_dict, kb_str_int, kb_str_bool, kb_str_str, kb_str_tuple, kb_str_list, kb_str_dict, kb_list_int, kb_list_bool, kb_list_str, kb_list_tuple, kb_list_list, kb_list_dict, kb_tuple_int, kb_tuple_bool, kb_tuple_str, kb_tuple_tuple, kb_tuple_list, kb_tuple_dict, kb_dict_int, kb_dict_bool, kb_dict_str, kb_dict_tuple, kb_dict_list, kb_dict_dict, String.reduceEq, Int.reduceLT, Int.reduceLE, Int.reduceNeg, Int.reducePow, Nat.reducePow, Int.reduceToNat, Nat.reduceLT, Nat.reduceLeDiff, decide_true, decide_false, and_self, and_true, true_and, or_true, true_or, or_false, false_or, Bool.not_true, Bool.not_false, Bool.true_eq_false, Bool.false_eq_true, Option.map_some, Option.map_none, h, e, hb, e2, hb2, List.take_length]
theorem told_due {x f due : D} {i j : Int} {rs : List D} (h : ∀ μ, F_check_line_of [.d x, .d (.tuple rs), .d f] μ = .ok (.d .none) μ) (hb : withinD 0 ((rs.length : Nat) - 1) (.int i) = true) (hb2 : withinD (i + 1) ((rs.length : Nat) : Int) (.int j) = true) (hd : noDict due = true) (hb3 : withinD 0 1000 due = false) (μ : Mem) : F_stretch_told [.d x, .d (.tuple rs), .d f, .d (.int i), .d (.int j), .d due] μ = .ex ⟨"NoDue", none⟩ μ := by
  have e := within_ok (.int i) 0 ((rs.length : Nat) - 1) rfl
  have e2 := within_ok (.int j) (i + 1) ((rs.length : Nat) : Int) rfl
  have e3 := check_due_ok hd
  simp only [hb3, Bool.false_eq_true, if_false] at e3
  simp only [F_stretch_told, C_stretch_told, cV_, cK_, cBin_, cCall_, cCons_, cNil_, cH_, cD_, cA_, cT_, cIf_, cAndT_, cOrT_, cNotT_, cAndV_, cOrV_, cNotV_, cChain_, cSl_, cPart_, cNoPart_, cMt_, cIsi_, cNeg_, cFn_, sNil_, sCons_, sIf_, sSet_, sPar_, sExpr_, sRet_, sRetN_, sRaise_, sBrk_, sCnt_, sStore_, fnOf_, iAny_, iR1_, iR2_, iEn_, gN_, gT_, gsN_, gsC_, stepS_, cYes_, lcF_, bT, iP, isTy, tyName, opTup, opLst, opAdd, opII, cDivB, opMul, opOrd, opEq, kD_nn, kD_ii, kD_bb, kD_ss, kD_ni, kD_nb, kD_ns, kD_in, kD_bn, kD_sn, kD_is, kD_si, kD_bs, kD_sb, kD_tuple1, kD_tuple2, kD_list1, kD_list2, kD_ib, kD_bi, opIsN, opIx, opSl, one, fLen, fInt, fAbs, fTup, fList, see, hold, toD, adopt, Rs.bind, Rs.thenS, opStore, expo, itmOf, wipeR, mAppend, mExtend, sAsg_, List.mapM_cons, List.mapM_nil, Option.bind_eq_bind, Option.bind_some, Option.pure_def, List.append_assoc, sz0, sy0, sz1, sy1, sz2, sy2, sz3, sy3, sz4, sy4, sz5, sy5, sz6, sy6, sz7, sy7, sz8, sy8, sz9, sy9, sz10, sy10, sz11, sy11, sz12, sy12, sz13, sy13, sz14, sy14, sz15, sy15, sz16, sy16, sz17, sy17, sz18, sy18, sz19, sy19, sz20, sy20, sz21, sy21, sz22, sy22, sz23, sy23, sz24, sy24, sz25, sy25, sz26, sy26, sz27, sy27, sz28, sy28, sz29, sy29, sz30, sy30, sz31, sy31, sz32, sy32, sz33, sy33, sz34, sy34, sz35, sy35, sz36, sy36, sz37, sy37, sz38, sy38, sz39, sy39, sz40, sy40, sPar3_, iZp_, cIsE_, zipOf, isL, opRepT, opIsB, fMax2, fMin2, mCountB, mIndexB, bools0, bools1, List.getElem?_cons_zero, List.getElem?_cons_succ, List.map_cons, List.map_nil, List.length_cons, List.length_nil, List.cons_append, List.nil_append, List.replicate_succ, List.replicate_zero, List.set_cons_zero, List.set_cons_succ, Nat.zero_add, Nat.reduceAdd, Nat.reduceSub, ↓reduceIte, reduceCtorEq, String.reduceBEq, kb_NoneType_int, kb_NoneType_bool, kb_NoneType_str, kb_NoneType_tuple, kb_NoneType_list, kb_NoneType_dict, kb_bool_int, kb_bool_bool, kb_bool_str, kb_bool_tuple, kb_bool_list, kb_bool_dict, kb_int_int, kb_int_bool, kb_int_str, kb_int_tuple, kb_int_list, kb_int_dict, kb_str_int, kb_str_bool, kb_str_str, kb_str_tuple, kb_str_list, kb_str_dict, kb_list_int, kb_list_bool, kb_list_str, kb_list_tuple, kb_list_list, kb_list_dict, kb_tuple_int, kb_tuple_bool, kb_tuple_str, kb_tuple_tuple, kb_tuple_list, kb_tuple_dict, kb_dict_int, kb_dict_bool, kb_dict_str, kb_dict_tuple, kb_dict_list, kb_dict_dict, String.reduceEq, Int.reduceLT, Int.reduceLE, Int.reduceNeg, Int.reducePow, Nat.reducePow, Int.reduceToNat, Nat.reduceLT, Nat.reduceLeDiff, decide_true, decide_false, and_self, and_true, true_and, or_true, true_or, or_false, false_or, Bool.not_true, Bool.not_false, Bool.true_eq_false, Bool.false_eq_true, Option.map_some, Option.map_none, h, e, hb, e2, hb2, e3, List.take_length]
theorem told_all {x f : D} {i j due : Int} {rs : List D} {r : D} (h : ∀ μ, F_check_line_of [.d x, .d (.tuple rs), .d f] μ = .ok (.d .none) μ) (hb : withinD 0 ((rs.length : Nat) - 1) (.int i) = true) (hb2 : withinD (i + 1) ((rs.length : Nat) : Int) (.int j) = true) (hb3 : withinD 0 1000 (.int due) = true)
    (hr : ∀ μ, F_raw_stretch [.d x, .d (.tuple rs), .d f, .d (.int 1), .d (.int i), .d (.int j), .d (.int due)] μ = .ok (.d r) μ) (μ : Mem) : F_stretch_told [.d x, .d (.tuple rs), .d f, .d (.int i), .d (.int j), .d (.int due)] μ = .ok (.d r) μ := by
  have e := within_ok (.int i) 0 ((rs.length : Nat) - 1) rfl
  have e2 := within_ok (.int j) (i + 1) ((rs.length : Nat) : Int) rfl
  have e3 := check_due_ok (x := .int due) rfl
  simp only [hb3, if_true] at e3
  simp only [F_stretch_told, C_stretch_told, cV_, cK_, cBin_, cCall_, cCons_, cNil_, cH_, cD_, cA_, cT_, cIf_, cAndT_, cOrT_, cNotT_, cAndV_, cOrV_, cNotV_, cChain_, cSl_, cPart_, cNoPart_, cMt_, cIsi_, cNeg_, cFn_, sNil_, sCons_, sIf_, sSet_, sPar_, sExpr_, sRet_, sRetN_, sRaise_, sBrk_, sCnt_, sStore_, fnOf_, iAny_, iR1_, iR2_, iEn_, gN_, gT_, gsN_, gsC_, stepS_, cYes_, lcF_, bT, iP, isTy, tyName, opTup, opLst, opAdd, opII, cDivB, opMul, opOrd, opEq, kD_nn, kD_ii, kD_bb, kD_ss, kD_ni, kD_nb, kD_ns, kD_in, kD_bn, kD_sn, kD_is, kD_si, kD_bs, kD_sb, kD_tuple1, kD_tuple2, kD_list1, kD_list2, kD_ib, kD_bi, opIsN, opIx, opSl, one, fLen, fInt, fAbs, fTup, fList, see, hold, toD, adopt, Rs.bind, Rs.thenS, opStore, expo, itmOf, wipeR, mAppend, mExtend, sAsg_, List.mapM_cons, List.mapM_nil, Option.bind_eq_bind, Option.bind_some, Option.pure_def, List.append_assoc, sz0, sy0, sz1, sy1, sz2, sy2, sz3, sy3, sz4, sy4, sz5, sy5, sz6, sy6, sz7, sy7, sz8, sy8, sz9, sy9, sz10, sy10, sz11, sy11, sz12, sy12, sz13, sy13, sz14, sy14, sz15, sy15, sz16, sy16, sz17, sy17, sz18, sy18, sz19, sy19, sz20, sy20, sz21, sy21, sz22, sy22, sz23, sy23, sz24, sy24, sz25, sy25, sz26, sy26, sz27, sy27, sz28, sy28, sz29, sy29, sz30, sy30, sz31, sy31, sz32, sy32, sz33, sy33, sz34, sy34, sz35, sy35, sz36, sy36, sz37, sy37, sz38, sy38, sz39, sy39, sz40, sy40, sPar3_, iZp_, cIsE_, zipOf, isL, opRepT, opIsB, fMax2, fMin2, mCountB, mIndexB, bools0, bools1, List.getElem?_cons_zero, List.getElem?_cons_succ, List.map_cons, List.map_nil, List.length_cons, List.length_nil, List.cons_append, List.nil_append, List.replicate_succ, List.replicate_zero, List.set_cons_zero, List.set_cons_succ, Nat.zero_add, Nat.reduceAdd, Nat.reduceSub, ↓reduceIte, reduceCtorEq, String.reduceBEq, kb_NoneType_int, kb_NoneType_bool, kb_NoneType_str, kb_NoneType_tuple, kb_NoneType_list, kb_NoneType_dict, kb_bool_int, kb_bool_bool, kb_bool_str, kb_bool_tuple, kb_bool_list, kb_bool_dict, kb_int_int, kb_int_bool, kb_int_str, kb_int_tuple, kb_int_list, kb_int_dict, kb_str_int, kb_str_bool, kb_str_str, kb_str_tuple, kb_str_list, kb_str_dict, kb_list_int, kb_list_bool, kb_list_str, kb_list_tuple, kb_list_list, kb_list_dict, kb_tuple_int, kb_tuple_bool, kb_tuple_str, kb_tuple_tuple, kb_tuple_list, kb_tuple_dict, kb_dict_int, kb_dict_bool, kb_dict_str, kb_dict_tuple, kb_dict_list, kb_dict_dict, String.reduceEq, Int.reduceLT, Int.reduceLE, Int.reduceNeg, Int.reducePow, Nat.reducePow, Int.reduceToNat, Nat.reduceLT, Nat.reduceLeDiff, decide_true, decide_false, and_self, and_true, true_and, or_true, true_or, or_false, false_or, Bool.not_true, Bool.not_false, Bool.true_eq_false, Bool.false_eq_true, Option.map_some, Option.map_none, h, e, hb, e2, hb2, e3, hr, List.take_length]
end L28
set_option maxRecDepth 100000
set_option maxHeartbeats 1000000
namespace L28
open PySem PySem.Spec PyProof.Rows L2 Em
/-! ### words of refusals -/
theorem said_due {th : Mem → Rs R} {μ μ' : Mem} (h : th μ = .ex ⟨"NoDue", none⟩ μ') (hl : μ'.length = μ.length) : P__law_said th μ = .ok (.d (.str "due")) μ' := by
  have k0 : known.contains ("NoDue" : Str) = true := by decide +kernel
  have ke : sb "NoDue" "EmberError" = true := by decide +kernel
  have k_NoDue : sb "NoDue" "NoDue" = true := by decide +kernel
  have k_NoFlow : sb "NoDue" "NoFlow" = false := by decide +kernel
  have k_NoKit : sb "NoDue" "NoKit" = false := by decide +kernel
  have k_NoNumber : sb "NoDue" "NoNumber" = false := by decide +kernel
  have k_NoRises : sb "NoDue" "NoRises" = false := by decide +kernel
  have k_NoSpot : sb "NoDue" "NoSpot" = false := by decide +kernel
  have hcnt : (((List.count true [true, false, false, false, false, false] : Nat) : Int) == 1) = true := by decide
  have hfind : List.findIdx? (fun c => c == true) [true, false, false, false, false, false] = some 0 := by decide
  have hat : L2.atI ([.str "due", .str "flow", .str "kit", .str "number", .str "rises", .str "spot"] : List D) ((0 : Nat) : Int) = some (.str "due") := atI_at rfl
  simp only [P__law_said, B__law_said, N__law_said, cV_, cK_, cBin_, cCall_, cCons_, cNil_, cH_, cD_, cA_, cT_, cIf_, cAndT_, cOrT_, cNotT_, cAndV_, cOrV_, cNotV_, cChain_, cSl_, cPart_, cNoPart_, cMt_, cIsi_, cNeg_, cFn_, sNil_, sCons_, sIf_, sSet_, sPar_, sExpr_, sRet_, sRetN_, sRaise_, sBrk_, sCnt_, sStore_, fnOf_, iAny_, iR1_, iR2_, iEn_, gN_, gT_, gsN_, gsC_, stepS_, cYes_, lcF_, bT, iP, isTy, tyName, opTup, opLst, opAdd, opII, cDivB, opMul, opOrd, opEq, kD_nn, kD_ii, kD_bb, kD_ss, kD_ni, kD_nb, kD_ns, kD_in, kD_bn, kD_sn, kD_is, kD_si, kD_bs, kD_sb, kD_tuple1, kD_tuple2, kD_list1, kD_list2, kD_ib, kD_bi, opIsN, opIx, opSl, one, fLen, fInt, fAbs, fTup, fList, see, hold, toD, adopt, Rs.bind, Rs.thenS, opStore, expo, itmOf, wipeR, mAppend, mExtend, sAsg_, List.mapM_cons, List.mapM_nil, Option.bind_eq_bind, Option.bind_some, Option.pure_def, List.append_assoc, sz0, sy0, sz1, sy1, sz2, sy2, sz3, sy3, sz4, sy4, sz5, sy5, sz6, sy6, sz7, sy7, sz8, sy8, sz9, sy9, sz10, sy10, sz11, sy11, sz12, sy12, sz13, sy13, sz14, sy14, sz15, sy15, sz16, sy16, sz17, sy17, sz18, sy18, sz19, sy19, sz20, sy20, sz21, sy21, sz22, sy22, sz23, sy23, sz24, sy24, sz25, sy25, sz26, sy26, sz27, sy27, sz28, sy28, sz29, sy29, sz30, sy30, sz31, sy31, sz32, sy32, sz33, sy33, sz34, sy34, sz35, sy35, sz36, sy36, sz37, sy37, sz38, sy38, sz39, sy39, sz40, sy40, sPar3_, iZp_, cIsE_, zipOf, isL, opRepT, opIsB, fMax2, fMin2, mCountB, mIndexB, bools0, bools1, List.getElem?_cons_zero, List.getElem?_cons_succ, List.map_cons, List.map_nil, List.length_cons, List.length_nil, List.cons_append, List.nil_append, List.replicate_succ, List.replicate_zero, List.set_cons_zero, List.set_cons_succ, Nat.zero_add, Nat.reduceAdd, Nat.reduceSub, ↓reduceIte, reduceCtorEq, String.reduceBEq, kb_NoneType_int, kb_NoneType_bool, kb_NoneType_str, kb_NoneType_tuple, kb_NoneType_list, kb_NoneType_dict, kb_bool_int, kb_bool_bool, kb_bool_str, kb_bool_tuple, kb_bool_list, kb_bool_dict, kb_int_int, kb_int_bool, kb_int_str, kb_int_tuple, kb_int_list, kb_int_dict, kb_str_int, kb_str_bool, kb_str_str, kb_str_tuple, kb_str_list, kb_str_dict, kb_list_int, kb_list_bool, kb_list_str, kb_list_tuple, kb_list_list, kb_list_dict, kb_tuple_int, kb_tuple_bool, kb_tuple_str, kb_tuple_tuple, kb_tuple_list, kb_tuple_dict, kb_dict_int, kb_dict_bool, kb_dict_str, kb_dict_tuple, kb_dict_list, kb_dict_dict, String.reduceEq, Int.reduceLT, Int.reduceLE, Int.reduceNeg, Int.reducePow, Nat.reducePow, Int.reduceToNat, Nat.reduceLT, Nat.reduceLeDiff, decide_true, decide_false, and_self, and_true, true_and, or_true, true_or, or_false, false_or, Bool.not_true, Bool.not_false, Bool.true_eq_false, Bool.false_eq_true, Option.map_some, Option.map_none, sTryAs, cThunk_, h, k0, ke, Option.isNone_none, E__law_said, k_NoDue, k_NoFlow, k_NoKit, k_NoNumber, k_NoRises, k_NoSpot, PyData.eqv, hcnt, hfind, hat, wipeO]
  rw [← hl, List.take_length]
theorem said_flow {th : Mem → Rs R} {μ μ' : Mem} (h : th μ = .ex ⟨"NoFlow", none⟩ μ') (hl : μ'.length = μ.length) : P__law_said th μ = .ok (.d (.str "flow")) μ' := by
  have k0 : known.contains ("NoFlow" : Str) = true := by decide +kernel
  have ke : sb "NoFlow" "EmberError" = true := by decide +kernel
  have k_NoDue : sb "NoFlow" "NoDue" = false := by decide +kernel
  have k_NoFlow : sb "NoFlow" "NoFlow" = true := by decide +kernel
  have k_NoKit : sb "NoFlow" "NoKit" = false := by decide +kernel
  have k_NoNumber : sb "NoFlow" "NoNumber" = false := by decide +kernel
  have k_NoRises : sb "NoFlow" "NoRises" = false := by decide +kernel
  have k_NoSpot : sb "NoFlow" "NoSpot" = false := by decide +kernel
  have hcnt : (((List.count true [false, true, false, false, false, false] : Nat) : Int) == 1) = true := by decide
  have hfind : List.findIdx? (fun c => c == true) [false, true, false, false, false, false] = some 1 := by decide
  have hat : L2.atI ([.str "due", .str "flow", .str "kit", .str "number", .str "rises", .str "spot"] : List D) ((1 : Nat) : Int) = some (.str "flow") := atI_at rfl
  simp only [P__law_said, B__law_said, N__law_said, cV_, cK_, cBin_, cCall_, cCons_, cNil_, cH_, cD_, cA_, cT_, cIf_, cAndT_, cOrT_, cNotT_, cAndV_, cOrV_, cNotV_, cChain_, cSl_, cPart_, cNoPart_, cMt_, cIsi_, cNeg_, cFn_, sNil_, sCons_, sIf_, sSet_, sPar_, sExpr_, sRet_, sRetN_, sRaise_, sBrk_, sCnt_, sStore_, fnOf_, iAny_, iR1_, iR2_, iEn_, gN_, gT_, gsN_, gsC_, stepS_, cYes_, lcF_, bT, iP, isTy, tyName, opTup, opLst, opAdd, opII, cDivB, opMul, opOrd, opEq, kD_nn, kD_ii, kD_bb, kD_ss, kD_ni, kD_nb, kD_ns, kD_in, kD_bn, kD_sn, kD_is, kD_si, kD_bs, kD_sb, kD_tuple1, kD_tuple2, kD_list1, kD_list2, kD_ib, kD_bi, opIsN, opIx, opSl, one, fLen, fInt, fAbs, fTup, fList, see, hold, toD, adopt, Rs.bind, Rs.thenS, opStore, expo, itmOf, wipeR, mAppend, mExtend, sAsg_, List.mapM_cons, List.mapM_nil, Option.bind_eq_bind, Option.bind_some, Option.pure_def, List.append_assoc, sz0, sy0, sz1, sy1, sz2, sy2, sz3, sy3, sz4, sy4, sz5, sy5, sz6, sy6, sz7, sy7, sz8, sy8, sz9, sy9, sz10, sy10, sz11, sy11, sz12, sy12, sz13, sy13, sz14, sy14, sz15, sy15, sz16, sy16, sz17, sy17, sz18, sy18, sz19, sy19, sz20, sy20, sz21, sy21, sz22, sy22, sz23, sy23, sz24, sy24, sz25, sy25, sz26, sy26, sz27, sy27, sz28, sy28, sz29, sy29, sz30, sy30, sz31, sy31, sz32, sy32, sz33, sy33, sz34, sy34, sz35, sy35, sz36, sy36, sz37, sy37, sz38, sy38, sz39, sy39, sz40, sy40, sPar3_, iZp_, cIsE_, zipOf, isL, opRepT, opIsB, fMax2, fMin2, mCountB, mIndexB, bools0, bools1, List.getElem?_cons_zero, List.getElem?_cons_succ, List.map_cons, List.map_nil, List.length_cons, List.length_nil, List.cons_append, List.nil_append, List.replicate_succ, List.replicate_zero, List.set_cons_zero, List.set_cons_succ, Nat.zero_add, Nat.reduceAdd, Nat.reduceSub, ↓reduceIte, reduceCtorEq, String.reduceBEq, kb_NoneType_int, kb_NoneType_bool, kb_NoneType_str, kb_NoneType_tuple, kb_NoneType_list, kb_NoneType_dict, kb_bool_int, kb_bool_bool, kb_bool_str, kb_bool_tuple, kb_bool_list, kb_bool_dict, kb_int_int, kb_int_bool, kb_int_str, kb_int_tuple, kb_int_list, kb_int_dict, kb_str_int, kb_str_bool, kb_str_str, kb_str_tuple, kb_str_list, kb_str_dict, kb_list_int, kb_list_bool, kb_list_str, kb_list_tuple, kb_list_list, kb_list_dict, kb_tuple_int, kb_tuple_bool, kb_tuple_str, kb_tuple_tuple, kb_tuple_list, kb_tuple_dict, kb_dict_int, kb_dict_bool, kb_dict_str, kb_dict_tuple, kb_dict_list, kb_dict_dict, String.reduceEq, Int.reduceLT, Int.reduceLE, Int.reduceNeg, Int.reducePow, Nat.reducePow, Int.reduceToNat, Nat.reduceLT, Nat.reduceLeDiff, decide_true, decide_false, and_self, and_true, true_and, or_true, true_or, or_false, false_or, Bool.not_true, Bool.not_false, Bool.true_eq_false, Bool.false_eq_true, Option.map_some, Option.map_none, sTryAs, cThunk_, h, k0, ke, Option.isNone_none, E__law_said, k_NoDue, k_NoFlow, k_NoKit, k_NoNumber, k_NoRises, k_NoSpot, PyData.eqv, hcnt, hfind, hat, wipeO]
  rw [← hl, List.take_length]
theorem said_kit {th : Mem → Rs R} {μ μ' : Mem} (h : th μ = .ex ⟨"NoKit", none⟩ μ') (hl : μ'.length = μ.length) : P__law_said th μ = .ok (.d (.str "kit")) μ' := by
  have k0 : known.contains ("NoKit" : Str) = true := by decide +kernel
  have ke : sb "NoKit" "EmberError" = true := by decide +kernel
  have k_NoDue : sb "NoKit" "NoDue" = false := by decide +kernel
  have k_NoFlow : sb "NoKit" "NoFlow" = false := by decide +kernel
  have k_NoKit : sb "NoKit" "NoKit" = true := by decide +kernel
  have k_NoNumber : sb "NoKit" "NoNumber" = false := by decide +kernel
  have k_NoRises : sb "NoKit" "NoRises" = false := by decide +kernel
  have k_NoSpot : sb "NoKit" "NoSpot" = false := by decide +kernel
  have hcnt : (((List.count true [false, false, true, false, false, false] : Nat) : Int) == 1) = true := by decide
  have hfind : List.findIdx? (fun c => c == true) [false, false, true, false, false, false] = some 2 := by decide
  have hat : L2.atI ([.str "due", .str "flow", .str "kit", .str "number", .str "rises", .str "spot"] : List D) ((2 : Nat) : Int) = some (.str "kit") := atI_at rfl
  simp only [P__law_said, B__law_said, N__law_said, cV_, cK_, cBin_, cCall_, cCons_, cNil_, cH_, cD_, cA_, cT_, cIf_, cAndT_, cOrT_, cNotT_, cAndV_, cOrV_, cNotV_, cChain_, cSl_, cPart_, cNoPart_, cMt_, cIsi_, cNeg_, cFn_, sNil_, sCons_, sIf_, sSet_, sPar_, sExpr_, sRet_, sRetN_, sRaise_, sBrk_, sCnt_, sStore_, fnOf_, iAny_, iR1_, iR2_, iEn_, gN_, gT_, gsN_, gsC_, stepS_, cYes_, lcF_, bT, iP, isTy, tyName, opTup, opLst, opAdd, opII, cDivB, opMul, opOrd, opEq, kD_nn, kD_ii, kD_bb, kD_ss, kD_ni, kD_nb, kD_ns, kD_in, kD_bn, kD_sn, kD_is, kD_si, kD_bs, kD_sb, kD_tuple1, kD_tuple2, kD_list1, kD_list2, kD_ib, kD_bi, opIsN, opIx, opSl, one, fLen, fInt, fAbs, fTup, fList, see, hold, toD, adopt, Rs.bind, Rs.thenS, opStore, expo, itmOf, wipeR, mAppend, mExtend, sAsg_, List.mapM_cons, List.mapM_nil, Option.bind_eq_bind, Option.bind_some, Option.pure_def, List.append_assoc, sz0, sy0, sz1, sy1, sz2, sy2, sz3, sy3, sz4, sy4, sz5, sy5, sz6, sy6, sz7, sy7, sz8, sy8, sz9, sy9, sz10, sy10, sz11, sy11, sz12, sy12, sz13, sy13, sz14, sy14, sz15, sy15, sz16, sy16, sz17, sy17, sz18, sy18, sz19, sy19, sz20, sy20, sz21, sy21, sz22, sy22, sz23, sy23, sz24, sy24, sz25, sy25, sz26, sy26, sz27, sy27, sz28, sy28, sz29, sy29, sz30, sy30, sz31, sy31, sz32, sy32, sz33, sy33, sz34, sy34, sz35, sy35, sz36, sy36, sz37, sy37, sz38, sy38, sz39, sy39, sz40, sy40, sPar3_, iZp_, cIsE_, zipOf, isL, opRepT, opIsB, fMax2, fMin2, mCountB, mIndexB, bools0, bools1, List.getElem?_cons_zero, List.getElem?_cons_succ, List.map_cons, List.map_nil, List.length_cons, List.length_nil, List.cons_append, List.nil_append, List.replicate_succ, List.replicate_zero, List.set_cons_zero, List.set_cons_succ, Nat.zero_add, Nat.reduceAdd, Nat.reduceSub, ↓reduceIte, reduceCtorEq, String.reduceBEq, kb_NoneType_int, kb_NoneType_bool, kb_NoneType_str, kb_NoneType_tuple, kb_NoneType_list, kb_NoneType_dict, kb_bool_int, kb_bool_bool, kb_bool_str, kb_bool_tuple, kb_bool_list, kb_bool_dict, kb_int_int, kb_int_bool, kb_int_str, kb_int_tuple, kb_int_list, kb_int_dict, kb_str_int, kb_str_bool, kb_str_str, kb_str_tuple, kb_str_list, kb_str_dict, kb_list_int, kb_list_bool, kb_list_str, kb_list_tuple, kb_list_list, kb_list_dict, kb_tuple_int, kb_tuple_bool, kb_tuple_str, kb_tuple_tuple, kb_tuple_list, kb_tuple_dict, kb_dict_int, kb_dict_bool, kb_dict_str, kb_dict_tuple, kb_dict_list, kb_dict_dict, String.reduceEq, Int.reduceLT, Int.reduceLE, Int.reduceNeg, Int.reducePow, Nat.reducePow, Int.reduceToNat, Nat.reduceLT, Nat.reduceLeDiff, decide_true, decide_false, and_self, and_true, true_and, or_true, true_or, or_false, false_or, Bool.not_true, Bool.not_false, Bool.true_eq_false, Bool.false_eq_true, Option.map_some, Option.map_none, sTryAs, cThunk_, h, k0, ke, Option.isNone_none, E__law_said, k_NoDue, k_NoFlow, k_NoKit, k_NoNumber, k_NoRises, k_NoSpot, PyData.eqv, hcnt, hfind, hat, wipeO]
  rw [← hl, List.take_length]
theorem said_number {th : Mem → Rs R} {μ μ' : Mem} (h : th μ = .ex ⟨"NoNumber", none⟩ μ') (hl : μ'.length = μ.length) : P__law_said th μ = .ok (.d (.str "number")) μ' := by
  have k0 : known.contains ("NoNumber" : Str) = true := by decide +kernel
  have ke : sb "NoNumber" "EmberError" = true := by decide +kernel
  have k_NoDue : sb "NoNumber" "NoDue" = false := by decide +kernel
  have k_NoFlow : sb "NoNumber" "NoFlow" = false := by decide +kernel
  have k_NoKit : sb "NoNumber" "NoKit" = false := by decide +kernel
  have k_NoNumber : sb "NoNumber" "NoNumber" = true := by decide +kernel
  have k_NoRises : sb "NoNumber" "NoRises" = false := by decide +kernel
  have k_NoSpot : sb "NoNumber" "NoSpot" = false := by decide +kernel
  have hcnt : (((List.count true [false, false, false, true, false, false] : Nat) : Int) == 1) = true := by decide
  have hfind : List.findIdx? (fun c => c == true) [false, false, false, true, false, false] = some 3 := by decide
  have hat : L2.atI ([.str "due", .str "flow", .str "kit", .str "number", .str "rises", .str "spot"] : List D) ((3 : Nat) : Int) = some (.str "number") := atI_at rfl
  simp only [P__law_said, B__law_said, N__law_said, cV_, cK_, cBin_, cCall_, cCons_, cNil_, cH_, cD_, cA_, cT_, cIf_, cAndT_, cOrT_, cNotT_, cAndV_, cOrV_, cNotV_, cChain_, cSl_, cPart_, cNoPart_, cMt_, cIsi_, cNeg_, cFn_, sNil_, sCons_, sIf_, sSet_, sPar_, sExpr_, sRet_, sRetN_, sRaise_, sBrk_, sCnt_, sStore_, fnOf_, iAny_, iR1_, iR2_, iEn_, gN_, gT_, gsN_, gsC_, stepS_, cYes_, lcF_, bT, iP, isTy, tyName, opTup, opLst, opAdd, opII, cDivB, opMul, opOrd, opEq, kD_nn, kD_ii, kD_bb, kD_ss, kD_ni, kD_nb, kD_ns, kD_in, kD_bn, kD_sn, kD_is, kD_si, kD_bs, kD_sb, kD_tuple1, kD_tuple2, kD_list1, kD_list2, kD_ib, kD_bi, opIsN, opIx, opSl, one, fLen, fInt, fAbs, fTup, fList, see, hold, toD, adopt, Rs.bind, Rs.thenS, opStore, expo, itmOf, wipeR, mAppend, mExtend, sAsg_, List.mapM_cons, List.mapM_nil, Option.bind_eq_bind, Option.bind_some, Option.pure_def, List.append_assoc, sz0, sy0, sz1, sy1, sz2, sy2, sz3, sy3, sz4, sy4, sz5, sy5, sz6, sy6, sz7, sy7, sz8, sy8, sz9, sy9, sz10, sy10, sz11, sy11, sz12, sy12, sz13, sy13, sz14, sy14, sz15, sy15, sz16, sy16, sz17, sy17, sz18, sy18, sz19, sy19, sz20, sy20, sz21, sy21, sz22, sy22, sz23, sy23, sz24, sy24, sz25, sy25, sz26, sy26, sz27, sy27, sz28, sy28, sz29, sy29, sz30, sy30, sz31, sy31, sz32, sy32, sz33, sy33, sz34, sy34, sz35, sy35, sz36, sy36, sz37, sy37, sz38, sy38, sz39, sy39, sz40, sy40, sPar3_, iZp_, cIsE_, zipOf, isL, opRepT, opIsB, fMax2, fMin2, mCountB, mIndexB, bools0, bools1, List.getElem?_cons_zero, List.getElem?_cons_succ, List.map_cons, List.map_nil, List.length_cons, List.length_nil, List.cons_append, List.nil_append, List.replicate_succ, List.replicate_zero, List.set_cons_zero, List.set_cons_succ, Nat.zero_add, Nat.reduceAdd, Nat.reduceSub, ↓reduceIte, reduceCtorEq, String.reduceBEq, kb_NoneType_int, kb_NoneType_bool, kb_NoneType_str, kb_NoneType_tuple, kb_NoneType_list, kb_NoneType_dict, kb_bool_int, kb_bool_bool, kb_bool_str, kb_bool_tuple, kb_bool_list, kb_bool_dict, kb_int_int, kb_int_bool, kb_int_str, kb_int_tuple, kb_int_list, kb_int_dict, kb_str_int, kb_str_bool, kb_str_str, kb_str_tuple, kb_str_list, kb_str_dict, kb_list_int, kb_list_bool, kb_list_str, kb_list_tuple, kb_list_list, kb_list_dict, kb_tuple_int, kb_tuple_bool, kb_tuple_str, kb_tuple_tuple, kb_tuple_list, kb_tuple_dict, kb_dict_int, kb_dict_bool, kb_dict_str, kb_dict_tuple, kb_dict_list, kb_dict_dict, String.reduceEq, Int.reduceLT, Int.reduceLE, Int.reduceNeg, Int.reducePow, Nat.reducePow, Int.reduceToNat, Nat.reduceLT, Nat.reduceLeDiff, decide_true, decide_false, and_self, and_true, true_and, or_true, true_or, or_false, false_or, Bool.not_true, Bool.not_false, Bool.true_eq_false, Bool.false_eq_true, Option.map_some, Option.map_none, sTryAs, cThunk_, h, k0, ke, Option.isNone_none, E__law_said, k_NoDue, k_NoFlow, k_NoKit, k_NoNumber, k_NoRises, k_NoSpot, PyData.eqv, hcnt, hfind, hat, wipeO]
  rw [← hl, List.take_length]
theorem said_rises {th : Mem → Rs R} {μ μ' : Mem} (h : th μ = .ex ⟨"NoRises", none⟩ μ') (hl : μ'.length = μ.length) : P__law_said th μ = .ok (.d (.str "rises")) μ' := by
  have k0 : known.contains ("NoRises" : Str) = true := by decide +kernel
  have ke : sb "NoRises" "EmberError" = true := by decide +kernel
  have k_NoDue : sb "NoRises" "NoDue" = false := by decide +kernel
  have k_NoFlow : sb "NoRises" "NoFlow" = false := by decide +kernel
  have k_NoKit : sb "NoRises" "NoKit" = false := by decide +kernel
  have k_NoNumber : sb "NoRises" "NoNumber" = false := by decide +kernel
  have k_NoRises : sb "NoRises" "NoRises" = true := by decide +kernel
  have k_NoSpot : sb "NoRises" "NoSpot" = false := by decide +kernel
  have hcnt : (((List.count true [false, false, false, false, true, false] : Nat) : Int) == 1) = true := by decide
  have hfind : List.findIdx? (fun c => c == true) [false, false, false, false, true, false] = some 4 := by decide
  have hat : L2.atI ([.str "due", .str "flow", .str "kit", .str "number", .str "rises", .str "spot"] : List D) ((4 : Nat) : Int) = some (.str "rises") := atI_at rfl
  simp only [P__law_said, B__law_said, N__law_said, cV_, cK_, cBin_, cCall_, cCons_, cNil_, cH_, cD_, cA_, cT_, cIf_, cAndT_, cOrT_, cNotT_, cAndV_, cOrV_, cNotV_, cChain_, cSl_, cPart_, cNoPart_, cMt_, cIsi_, cNeg_, cFn_, sNil_, sCons_, sIf_, sSet_, sPar_, sExpr_, sRet_, sRetN_, sRaise_, sBrk_, sCnt_, sStore_, fnOf_, iAny_, iR1_, iR2_, iEn_, gN_, gT_, gsN_, gsC_, stepS_, cYes_, lcF_, bT, iP, isTy, tyName, opTup, opLst, opAdd, opII, cDivB, opMul, opOrd, opEq, kD_nn, kD_ii, kD_bb, kD_ss, kD_ni, kD_nb, kD_ns, kD_in, kD_bn, kD_sn, kD_is, kD_si, kD_bs, kD_sb, kD_tuple1, kD_tuple2, kD_list1, kD_list2, kD_ib, kD_bi, opIsN, opIx, opSl, one, fLen, fInt, fAbs, fTup, fList, see, hold, toD, adopt, Rs.bind, Rs.thenS, opStore, expo, itmOf, wipeR, mAppend, mExtend, sAsg_, List.mapM_cons, List.mapM_nil, Option.bind_eq_bind, Option.bind_some, Option.pure_def, List.append_assoc, sz0, sy0, sz1, sy1, sz2, sy2, sz3, sy3, sz4, sy4, sz5, sy5, sz6, sy6, sz7, sy7, sz8, sy8, sz9, sy9, sz10, sy10, sz11, sy11, sz12, sy12, sz13, sy13, sz14, sy14, sz15, sy15, sz16, sy16, sz17, sy17, sz18, sy18, sz19, sy19, sz20, sy20, sz21, sy21, sz22, sy22, sz23, sy23, sz24, sy24, sz25, sy25, sz26, sy26, sz27, sy27, sz28, sy28, sz29, sy29, sz30, sy30, sz31, sy31, sz32, sy32, sz33, sy33, sz34, sy34, sz35, sy35, sz36, sy36, sz37, sy37, sz38, sy38, sz39, sy39, sz40, sy40, sPar3_, iZp_, cIsE_, zipOf, isL, opRepT, opIsB, fMax2, fMin2, mCountB, mIndexB, bools0, bools1, List.getElem?_cons_zero, List.getElem?_cons_succ, List.map_cons, List.map_nil, List.length_cons, List.length_nil, List.cons_append, List.nil_append, List.replicate_succ, List.replicate_zero, List.set_cons_zero, List.set_cons_succ, Nat.zero_add, Nat.reduceAdd, Nat.reduceSub, ↓reduceIte, reduceCtorEq, String.reduceBEq, kb_NoneType_int, kb_NoneType_bool, kb_NoneType_str, kb_NoneType_tuple, kb_NoneType_list, kb_NoneType_dict, kb_bool_int, kb_bool_bool, kb_bool_str, kb_bool_tuple, kb_bool_list, kb_bool_dict, kb_int_int, kb_int_bool, kb_int_str, kb_int_tuple, kb_int_list, kb_int_dict, kb_str_int, kb_str_bool, kb_str_str, kb_str_tuple, kb_str_list, kb_str_dict, kb_list_int, kb_list_bool, kb_list_str, kb_list_tuple, kb_list_list, kb_list_dict, kb_tuple_int, kb_tuple_bool, kb_tuple_str, kb_tuple_tuple, kb_tuple_list, kb_tuple_dict, kb_dict_int, kb_dict_bool, kb_dict_str, kb_dict_tuple, kb_dict_list, kb_dict_dict, String.reduceEq, Int.reduceLT, Int.reduceLE, Int.reduceNeg, Int.reducePow, Nat.reducePow, Int.reduceToNat, Nat.reduceLT, Nat.reduceLeDiff, decide_true, decide_false, and_self, and_true, true_and, or_true, true_or, or_false, false_or, Bool.not_true, Bool.not_false, Bool.true_eq_false, Bool.false_eq_true, Option.map_some, Option.map_none, sTryAs, cThunk_, h, k0, ke, Option.isNone_none, E__law_said, k_NoDue, k_NoFlow, k_NoKit, k_NoNumber, k_NoRises, k_NoSpot, PyData.eqv, hcnt, hfind, hat, wipeO]
  rw [← hl, List.take_length]
theorem said_spot {th : Mem → Rs R} {μ μ' : Mem} (h : th μ = .ex ⟨"NoSpot", none⟩ μ') (hl : μ'.length = μ.length) : P__law_said th μ = .ok (.d (.str "spot")) μ' := by
  have k0 : known.contains ("NoSpot" : Str) = true := by decide +kernel
  have ke : sb "NoSpot" "EmberError" = true := by decide +kernel
  have k_NoDue : sb "NoSpot" "NoDue" = false := by decide +kernel
  have k_NoFlow : sb "NoSpot" "NoFlow" = false := by decide +kernel
  have k_NoKit : sb "NoSpot" "NoKit" = false := by decide +kernel
  have k_NoNumber : sb "NoSpot" "NoNumber" = false := by decide +kernel
  have k_NoRises : sb "NoSpot" "NoRises" = false := by decide +kernel
  have k_NoSpot : sb "NoSpot" "NoSpot" = true := by decide +kernel
  have hcnt : (((List.count true [false, false, false, false, false, true] : Nat) : Int) == 1) = true := by decide
  have hfind : List.findIdx? (fun c => c == true) [false, false, false, false, false, true] = some 5 := by decide
  have hat : L2.atI ([.str "due", .str "flow", .str "kit", .str "number", .str "rises", .str "spot"] : List D) ((5 : Nat) : Int) = some (.str "spot") := atI_at rfl
  simp only [P__law_said, B__law_said, N__law_said, cV_, cK_, cBin_, cCall_, cCons_, cNil_, cH_, cD_, cA_, cT_, cIf_, cAndT_, cOrT_, cNotT_, cAndV_, cOrV_, cNotV_, cChain_, cSl_, cPart_, cNoPart_, cMt_, cIsi_, cNeg_, cFn_, sNil_, sCons_, sIf_, sSet_, sPar_, sExpr_, sRet_, sRetN_, sRaise_, sBrk_, sCnt_, sStore_, fnOf_, iAny_, iR1_, iR2_, iEn_, gN_, gT_, gsN_, gsC_, stepS_, cYes_, lcF_, bT, iP, isTy, tyName, opTup, opLst, opAdd, opII, cDivB, opMul, opOrd, opEq, kD_nn, kD_ii, kD_bb, kD_ss, kD_ni, kD_nb, kD_ns, kD_in, kD_bn, kD_sn, kD_is, kD_si, kD_bs, kD_sb, kD_tuple1, kD_tuple2, kD_list1, kD_list2, kD_ib, kD_bi, opIsN, opIx, opSl, one, fLen, fInt, fAbs, fTup, fList, see, hold, toD, adopt, Rs.bind, Rs.thenS, opStore, expo, itmOf, wipeR, mAppend, mExtend, sAsg_, List.mapM_cons, List.mapM_nil, Option.bind_eq_bind, Option.bind_some, Option.pure_def, List.append_assoc, sz0, sy0, sz1, sy1, sz2, sy2, sz3, sy3, sz4, sy4, sz5, sy5, sz6, sy6, sz7, sy7, sz8, sy8, sz9, sy9, sz10, sy10, sz11, sy11, sz12, sy12, sz13, sy13, sz14, sy14, sz15, sy15, sz16, sy16, sz17, sy17, sz18, sy18, sz19, sy19, sz20, sy20, sz21, sy21, sz22, sy22, sz23, sy23, sz24, sy24, sz25, sy25, sz26, sy26, sz27, sy27, sz28, sy28, sz29, sy29, sz30, sy30, sz31, sy31, sz32, sy32, sz33, sy33, sz34, sy34, sz35, sy35, sz36, sy36, sz37, sy37, sz38, sy38, sz39, sy39, sz40, sy40, sPar3_, iZp_, cIsE_, zipOf, isL, opRepT, opIsB, fMax2, fMin2, mCountB, mIndexB, bools0, bools1, List.getElem?_cons_zero, List.getElem?_cons_succ, List.map_cons, List.map_nil, List.length_cons, List.length_nil, List.cons_append, List.nil_append, List.replicate_succ, List.replicate_zero, List.set_cons_zero, List.set_cons_succ, Nat.zero_add, Nat.reduceAdd, Nat.reduceSub, ↓reduceIte, reduceCtorEq, String.reduceBEq, kb_NoneType_int, kb_NoneType_bool, kb_NoneType_str, kb_NoneType_tuple, kb_NoneType_list, kb_NoneType_dict, kb_bool_int, kb_bool_bool, kb_bool_str, kb_bool_tuple, kb_bool_list, kb_bool_dict, kb_int_int, kb_int_bool, kb_int_str, kb_int_tuple, kb_int_list, kb_int_dict, kb_str_int, kb_str_bool, kb_str_str, kb_str_tuple, kb_str_list, kb_str_dict, kb_list_int, kb_list_bool, kb_list_str, kb_list_tuple, kb_list_list, kb_list_dict, kb_tuple_int, kb_tuple_bool, kb_tuple_str, kb_tuple_tuple, kb_tuple_list, kb_tuple_dict, kb_dict_int, kb_dict_bool, kb_dict_str, kb_dict_tuple, kb_dict_list, kb_dict_dict, String.reduceEq, Int.reduceLT, Int.reduceLE, Int.reduceNeg, Int.reducePow, Nat.reducePow, Int.reduceToNat, Nat.reduceLT, Nat.reduceLeDiff, decide_true, decide_false, and_self, and_true, true_and, or_true, true_or, or_false, false_or, Bool.not_true, Bool.not_false, Bool.true_eq_false, Bool.false_eq_true, Option.map_some, Option.map_none, sTryAs, cThunk_, h, k0, ke, Option.isNone_none, E__law_said, k_NoDue, k_NoFlow, k_NoKit, k_NoNumber, k_NoRises, k_NoSpot, PyData.eqv, hcnt, hfind, hat, wipeO]
  rw [← hl, List.take_length]
theorem enm_range (f : Nat → D) (m : Nat) : enmD ((List.range m).map f) = (List.range m).map fun (k : Nat) => .tuple [.int (k : Int), f k] := by
  unfold enmD
  rw [List.length_map, List.length_range, List.zipWith_map_right, List.zipWith_self]
def burstD (rs : List Int) (lo g b : Int) : List D := (List.range (rs.length + 1)).filterMap fun (k : Nat) => if g - S rs lo k > b then some (.int (k : Int)) else none
theorem sumsD_eq (seg : List Int) (loss : Int) (k : Nat) : sumsD seg loss k = (List.range (k + 1)).map fun j => .int (S seg loss j) := by
  unfold sumsD
  rw [List.map_map]
  rfl
def burstF (g b : Int) : D → Option D
  | .tuple [.int k, .int s] => if g - s > b then some (.int k) else none
  | _ => none
theorem burstF_yes {g b k s : Int} (h : g - s > b) : burstF g b (.tuple [.int k, .int s]) = some (.int k) := if_pos h
theorem burstF_no {g b k s : Int} (h : ¬ g - s > b) : burstF g b (.tuple [.int k, .int s]) = none := if_neg h
theorem can_burst_ok {ls gs rs : List Int} {a b : Int} {f : Nat} {lo g : Int} (h : ∀ μ, F_check_line_of [.d (kitD ls gs a b), .d (.tuple (rs.map .int)), .d (.int (f : Int))] μ = .ok (.d .none) μ) (hl : ls[f]? = some lo) (hg : gs[f]? = some g) (hr : rs.length ≤ 900) (μ : Mem) :
    F_can_burst [.d (kitD ls gs a b), .d (.tuple (rs.map .int)), .d (.int (f : Int))] μ = .ok (.d (.tuple (burstD rs lo g b))) μ := by
  have e1 : ∀ μ, F_raw_loss [.d (kitD ls gs a b), .d (.int (f : Int)), .d (.int 1)] μ = .ok (.d (.int lo)) μ := fun μ => raw_loss_ok ls gs a b f 1 lo (by omega) (by omega) (by simpa using hl) μ
  have e2 : ∀ μ, F_sums_on [.d (.tuple (rs.map .int)), .d (.int lo), .d (.int 0), .d (.int ((rs.map PyData.int).length : Nat))] μ = .ok (.fl (sumsD rs lo rs.length)) μ := fun μ => by
    have := sums_ok rs lo 0 rs.length (by omega) (by omega) (by omega) μ
    simp only [List.drop_zero, Nat.sub_zero, List.take_length] at this
    rw [List.length_map]
    exact this
  have hgx := atI_ints hg
  have hL : ∀ μ, cLc (iEn (cV 3)) [4, 5] (gT (gsC (gN 4) (gsC (gN 5) gsN))) (cT (cBin opGt (cH (cBin opSub (cH (cBin opIx (cH (cBin opIx (cV 0) (cK (.int 1)))) (cV 2))) (cV 5))) (cH (cBin opIx (cV 0) (cK (.int 3)))))) (cV 4) [some (.d (kitD ls gs a b)), some (.d (.tuple (rs.map .int))), some (.d (.int (f : Int))), some (.d (.list (sumsD rs lo rs.length))), none, none] μ = .ok (.fl (burstD rs lo g b)) μ := fun μ => by
    have := cLc_map (own := [4, 5]) (ci := iEn (cV 3)) (ρ := [some (.d (kitD ls gs a b)), some (.d (.tuple (rs.map .int))), some (.d (.int (f : Int))), some (.d (.list (sumsD rs lo rs.length))), none, none]) (g := gT (gsC (gN 4) (gsC (gN 5) gsN))) (tt := cT (cBin opGt (cH (cBin opSub (cH (cBin opIx (cH (cBin opIx (cV 0) (cK (.int 1)))) (cV 2))) (cV 5))) (cH (cBin opIx (cV 0) (cK (.int 3)))))) (te := cV 4) (μ := μ) (μ1 := μ) (burstF g b) (itm_enm (sumsD rs lo rs.length)) (by simp only [cV_, cK_, cBin_, cCall_, cCons_, cNil_, cH_, cD_, cA_, cT_, cIf_, cAndT_, cOrT_, cNotT_, cAndV_, cOrV_, cNotV_, cChain_, cSl_, cPart_, cNoPart_, cMt_, cIsi_, cNeg_, cFn_, sNil_, sCons_, sIf_, sSet_, sPar_, sExpr_, sRet_, sRetN_, sRaise_, sBrk_, sCnt_, sStore_, fnOf_, iAny_, iR1_, iR2_, iEn_, gN_, gT_, gsN_, gsC_, stepS_, cYes_, lcF_, bT, iP, isTy, tyName, opTup, opLst, opAdd, opII, cDivB, opMul, opOrd, opEq, kD_nn, kD_ii, kD_bb, kD_ss, kD_ni, kD_nb, kD_ns, kD_in, kD_bn, kD_sn, kD_is, kD_si, kD_bs, kD_sb, kD_tuple1, kD_tuple2, kD_list1, kD_list2, kD_ib, kD_bi, opIsN, opIx, opSl, one, fLen, fInt, fAbs, fTup, fList, see, hold, toD, adopt, Rs.bind, Rs.thenS, opStore, expo, itmOf, wipeR, mAppend, mExtend, sAsg_, List.mapM_cons, List.mapM_nil, Option.bind_eq_bind, Option.bind_some, Option.pure_def, List.append_assoc, sz0, sy0, sz1, sy1, sz2, sy2, sz3, sy3, sz4, sy4, sz5, sy5, sz6, sy6, sz7, sy7, sz8, sy8, sz9, sy9, sz10, sy10, sz11, sy11, sz12, sy12, sz13, sy13, sz14, sy14, sz15, sy15, sz16, sy16, sz17, sy17, sz18, sy18, sz19, sy19, sz20, sy20, sz21, sy21, sz22, sy22, sz23, sy23, sz24, sy24, sz25, sy25, sz26, sy26, sz27, sy27, sz28, sy28, sz29, sy29, sz30, sy30, sz31, sy31, sz32, sy32, sz33, sy33, sz34, sy34, sz35, sy35, sz36, sy36, sz37, sy37, sz38, sy38, sz39, sy39, sz40, sy40, sPar3_, iZp_, cIsE_, zipOf, isL, opRepT, opIsB, fMax2, fMin2, mCountB, mIndexB, bools0, bools1, List.getElem?_cons_zero, List.getElem?_cons_succ, List.map_cons, List.map_nil, List.length_cons, List.length_nil, List.cons_append, List.nil_append, List.replicate_succ, List.replicate_zero, List.set_cons_zero, List.set_cons_succ, Nat.zero_add, Nat.reduceAdd, Nat.reduceSub, ↓reduceIte, reduceCtorEq, String.reduceBEq, kb_NoneType_int, kb_NoneType_bool, kb_NoneType_str, kb_NoneType_tuple, kb_NoneType_list, kb_NoneType_dict, kb_bool_int, kb_bool_bool, kb_bool_str, kb_bool_tuple, kb_bool_list, kb_bool_dict, kb_int_int, kb_int_bool, kb_int_str, kb_int_tuple, kb_int_list, kb_int_dict, kb_str_int, kb_str_bool, kb_str_str, kb_str_tuple, kb_str_list, kb_str_dict, kb_list_int, kb_list_bool, kb_list_str, kb_list_tuple, kb_list_list, kb_list_dict, kb_tuple_int, kb_tuple_bool, kb_tuple_str, kb_tuple_tuple, kb_tuple_list, kb_tuple_dict, kb_dict_int, kb_dict_bool, kb_dict_str, kb_dict_tuple, kb_dict_list, kb_dict_dict, String.reduceEq, Int.reduceLT, Int.reduceLE, Int.reduceNeg, Int.reducePow, Nat.reducePow, Int.reduceToNat, Nat.reduceLT, Nat.reduceLeDiff, decide_true, decide_false, and_self, and_true, true_and, or_true, true_or, or_false, false_or, Bool.not_true, Bool.not_false, Bool.true_eq_false, Bool.false_eq_true, Option.map_some, Option.map_none, enmOf]) (nat_sizeLine (by rw [sumsD_eq, enm_range]; simp; omega)) (fun d hd μ' _ => by
      rw [sumsD_eq, enm_range] at hd
      obtain ⟨k, _, rfl⟩ := List.mem_map.mp hd
      by_cases c : decide (b < g - S rs lo k) = true
      · have c' : g - S rs lo k > b := of_decide_eq_true c
        rw [burstF_yes c']
        simp only [kitD, cV_, cK_, cBin_, cCall_, cCons_, cNil_, cH_, cD_, cA_, cT_, cIf_, cAndT_, cOrT_, cNotT_, cAndV_, cOrV_, cNotV_, cChain_, cSl_, cPart_, cNoPart_, cMt_, cIsi_, cNeg_, cFn_, sNil_, sCons_, sIf_, sSet_, sPar_, sExpr_, sRet_, sRetN_, sRaise_, sBrk_, sCnt_, sStore_, fnOf_, iAny_, iR1_, iR2_, iEn_, gN_, gT_, gsN_, gsC_, stepS_, cYes_, lcF_, bT, iP, isTy, tyName, opTup, opLst, opAdd, opII, cDivB, opMul, opOrd, opEq, kD_nn, kD_ii, kD_bb, kD_ss, kD_ni, kD_nb, kD_ns, kD_in, kD_bn, kD_sn, kD_is, kD_si, kD_bs, kD_sb, kD_tuple1, kD_tuple2, kD_list1, kD_list2, kD_ib, kD_bi, opIsN, opIx, opSl, one, fLen, fInt, fAbs, fTup, fList, see, hold, toD, adopt, Rs.bind, Rs.thenS, opStore, expo, itmOf, wipeR, mAppend, mExtend, sAsg_, List.mapM_cons, List.mapM_nil, Option.bind_eq_bind, Option.bind_some, Option.pure_def, List.append_assoc, sz0, sy0, sz1, sy1, sz2, sy2, sz3, sy3, sz4, sy4, sz5, sy5, sz6, sy6, sz7, sy7, sz8, sy8, sz9, sy9, sz10, sy10, sz11, sy11, sz12, sy12, sz13, sy13, sz14, sy14, sz15, sy15, sz16, sy16, sz17, sy17, sz18, sy18, sz19, sy19, sz20, sy20, sz21, sy21, sz22, sy22, sz23, sy23, sz24, sy24, sz25, sy25, sz26, sy26, sz27, sy27, sz28, sy28, sz29, sy29, sz30, sy30, sz31, sy31, sz32, sy32, sz33, sy33, sz34, sy34, sz35, sy35, sz36, sy36, sz37, sy37, sz38, sy38, sz39, sy39, sz40, sy40, sPar3_, iZp_, cIsE_, zipOf, isL, opRepT, opIsB, fMax2, fMin2, mCountB, mIndexB, bools0, bools1, List.getElem?_cons_zero, List.getElem?_cons_succ, List.map_cons, List.map_nil, List.length_cons, List.length_nil, List.cons_append, List.nil_append, List.replicate_succ, List.replicate_zero, List.set_cons_zero, List.set_cons_succ, Nat.zero_add, Nat.reduceAdd, Nat.reduceSub, ↓reduceIte, reduceCtorEq, String.reduceBEq, kb_NoneType_int, kb_NoneType_bool, kb_NoneType_str, kb_NoneType_tuple, kb_NoneType_list, kb_NoneType_dict, kb_bool_int, kb_bool_bool, kb_bool_str, kb_bool_tuple, kb_bool_list, kb_bool_dict, kb_int_int, kb_int_bool, kb_int_str, kb_int_tuple, kb_int_list, kb_int_dict, kb_str_int, kb_str_bool, kb_str_str, kb_str_tuple, kb_str_list, kb_str_dict, kb_list_int, kb_list_bool, kb_list_str, kb_list_tuple, kb_list_list, kb_list_dict, kb_tuple_int, kb_tuple_bool, kb_tuple_str, kb_tuple_tuple, kb_tuple_list, kb_tuple_dict, kb_dict_int, kb_dict_bool, kb_dict_str, kb_dict_tuple, kb_dict_list, kb_dict_dict, String.reduceEq, Int.reduceLT, Int.reduceLE, Int.reduceNeg, Int.reducePow, Nat.reducePow, Int.reduceToNat, Nat.reduceLT, Nat.reduceLeDiff, decide_true, decide_false, and_self, and_true, true_and, or_true, true_or, or_false, false_or, Bool.not_true, Bool.not_false, Bool.true_eq_false, Bool.false_eq_true, Option.map_some, Option.map_none, ix11, ix43, hgx, c]
      · have c2 := Bool.eq_false_iff.mpr c
        have c' : ¬ g - S rs lo k > b := of_decide_eq_false c2
        rw [burstF_no c']
        simp only [kitD, cV_, cK_, cBin_, cCall_, cCons_, cNil_, cH_, cD_, cA_, cT_, cIf_, cAndT_, cOrT_, cNotT_, cAndV_, cOrV_, cNotV_, cChain_, cSl_, cPart_, cNoPart_, cMt_, cIsi_, cNeg_, cFn_, sNil_, sCons_, sIf_, sSet_, sPar_, sExpr_, sRet_, sRetN_, sRaise_, sBrk_, sCnt_, sStore_, fnOf_, iAny_, iR1_, iR2_, iEn_, gN_, gT_, gsN_, gsC_, stepS_, cYes_, lcF_, bT, iP, isTy, tyName, opTup, opLst, opAdd, opII, cDivB, opMul, opOrd, opEq, kD_nn, kD_ii, kD_bb, kD_ss, kD_ni, kD_nb, kD_ns, kD_in, kD_bn, kD_sn, kD_is, kD_si, kD_bs, kD_sb, kD_tuple1, kD_tuple2, kD_list1, kD_list2, kD_ib, kD_bi, opIsN, opIx, opSl, one, fLen, fInt, fAbs, fTup, fList, see, hold, toD, adopt, Rs.bind, Rs.thenS, opStore, expo, itmOf, wipeR, mAppend, mExtend, sAsg_, List.mapM_cons, List.mapM_nil, Option.bind_eq_bind, Option.bind_some, Option.pure_def, List.append_assoc, sz0, sy0, sz1, sy1, sz2, sy2, sz3, sy3, sz4, sy4, sz5, sy5, sz6, sy6, sz7, sy7, sz8, sy8, sz9, sy9, sz10, sy10, sz11, sy11, sz12, sy12, sz13, sy13, sz14, sy14, sz15, sy15, sz16, sy16, sz17, sy17, sz18, sy18, sz19, sy19, sz20, sy20, sz21, sy21, sz22, sy22, sz23, sy23, sz24, sy24, sz25, sy25, sz26, sy26, sz27, sy27, sz28, sy28, sz29, sy29, sz30, sy30, sz31, sy31, sz32, sy32, sz33, sy33, sz34, sy34, sz35, sy35, sz36, sy36, sz37, sy37, sz38, sy38, sz39, sy39, sz40, sy40, sPar3_, iZp_, cIsE_, zipOf, isL, opRepT, opIsB, fMax2, fMin2, mCountB, mIndexB, bools0, bools1, List.getElem?_cons_zero, List.getElem?_cons_succ, List.map_cons, List.map_nil, List.length_cons, List.length_nil, List.cons_append, List.nil_append, List.replicate_succ, List.replicate_zero, List.set_cons_zero, List.set_cons_succ, Nat.zero_add, Nat.reduceAdd, Nat.reduceSub, ↓reduceIte, reduceCtorEq, String.reduceBEq, kb_NoneType_int, kb_NoneType_bool, kb_NoneType_str, kb_NoneType_tuple, kb_NoneType_list, kb_NoneType_dict, kb_bool_int, kb_bool_bool, kb_bool_str, kb_bool_tuple, kb_bool_list, kb_bool_dict, kb_int_int, kb_int_bool, kb_int_str, kb_int_tuple, kb_int_list, kb_int_dict, kb_str_int, kb_str_bool, kb_str_str, kb_str_tuple, kb_str_list, kb_str_dict, kb_list_int, kb_list_bool, kb_list_str, kb_list_tuple, kb_list_list, kb_list_dict, kb_tuple_int, kb_tuple_bool, kb_tuple_str, kb_tuple_tuple, kb_tuple_list, kb_tuple_dict, kb_dict_int, kb_dict_bool, kb_dict_str, kb_dict_tuple, kb_dict_list, kb_dict_dict, String.reduceEq, Int.reduceLT, Int.reduceLE, Int.reduceNeg, Int.reducePow, Nat.reducePow, Int.reduceToNat, Nat.reduceLT, Nat.reduceLeDiff, decide_true, decide_false, and_self, and_true, true_and, or_true, true_or, or_false, false_or, Bool.not_true, Bool.not_false, Bool.true_eq_false, Bool.false_eq_true, Option.map_some, Option.map_none, ix11, ix43, hgx, c2])
    rw [this, sumsD_eq, enm_range, List.filterMap_map]
    rfl
  simp only [F_can_burst, C_can_burst, cV_, cK_, cBin_, cCall_, cCons_, cNil_, cH_, cD_, cA_, cT_, cIf_, cAndT_, cOrT_, cNotT_, cAndV_, cOrV_, cNotV_, cChain_, cSl_, cPart_, cNoPart_, cMt_, cIsi_, cNeg_, cFn_, sNil_, sCons_, sIf_, sSet_, sPar_, sExpr_, sRet_, sRetN_, sRaise_, sBrk_, sCnt_, sStore_, fnOf_, iAny_, iR1_, iR2_, iEn_, gN_, gT_, gsN_, gsC_, stepS_, cYes_, lcF_, bT, iP, isTy, tyName, opTup, opLst, opAdd, opII, cDivB, opMul, opOrd, opEq, kD_nn, kD_ii, kD_bb, kD_ss, kD_ni, kD_nb, kD_ns, kD_in, kD_bn, kD_sn, kD_is, kD_si, kD_bs, kD_sb, kD_tuple1, kD_tuple2, kD_list1, kD_list2, kD_ib, kD_bi, opIsN, opIx, opSl, one, fLen, fInt, fAbs, fTup, fList, see, hold, toD, adopt, Rs.bind, Rs.thenS, opStore, expo, itmOf, wipeR, mAppend, mExtend, sAsg_, List.mapM_cons, List.mapM_nil, Option.bind_eq_bind, Option.bind_some, Option.pure_def, List.append_assoc, sz0, sy0, sz1, sy1, sz2, sy2, sz3, sy3, sz4, sy4, sz5, sy5, sz6, sy6, sz7, sy7, sz8, sy8, sz9, sy9, sz10, sy10, sz11, sy11, sz12, sy12, sz13, sy13, sz14, sy14, sz15, sy15, sz16, sy16, sz17, sy17, sz18, sy18, sz19, sy19, sz20, sy20, sz21, sy21, sz22, sy22, sz23, sy23, sz24, sy24, sz25, sy25, sz26, sy26, sz27, sy27, sz28, sy28, sz29, sy29, sz30, sy30, sz31, sy31, sz32, sy32, sz33, sy33, sz34, sy34, sz35, sy35, sz36, sy36, sz37, sy37, sz38, sy38, sz39, sy39, sz40, sy40, sPar3_, iZp_, cIsE_, zipOf, isL, opRepT, opIsB, fMax2, fMin2, mCountB, mIndexB, bools0, bools1, List.getElem?_cons_zero, List.getElem?_cons_succ, List.map_cons, List.map_nil, List.length_cons, List.length_nil, List.cons_append, List.nil_append, List.replicate_succ, List.replicate_zero, List.set_cons_zero, List.set_cons_succ, Nat.zero_add, Nat.reduceAdd, Nat.reduceSub, ↓reduceIte, reduceCtorEq, String.reduceBEq, kb_NoneType_int, kb_NoneType_bool, kb_NoneType_str, kb_NoneType_tuple, kb_NoneType_list, kb_NoneType_dict, kb_bool_int, kb_bool_bool, kb_bool_str, kb_bool_tuple, kb_bool_list, kb_bool_dict, kb_int_int, kb_int_bool, kb_int_str, kb_int_tuple, kb_int_list, kb_int_dict, kb_str_int, kb_str_bool, kb_str_str, kb_str_tuple, kb_str_list, kb_str_dict, kb_list_int, kb_list_bool, kb_list_str, kb_list_tuple, kb_list_list, kb_list_dict, kb_tuple_int, kb_tuple_bool, kb_tuple_str, kb_tuple_tuple, kb_tuple_list, kb_tuple_dict, kb_dict_int, kb_dict_bool, kb_dict_str, kb_dict_tuple, kb_dict_list, kb_dict_dict, String.reduceEq, Int.reduceLT, Int.reduceLE, Int.reduceNeg, Int.reducePow, Nat.reducePow, Int.reduceToNat, Nat.reduceLT, Nat.reduceLeDiff, decide_true, decide_false, and_self, and_true, true_and, or_true, true_or, or_false, false_or, Bool.not_true, Bool.not_false, Bool.true_eq_false, Bool.false_eq_true, Option.map_some, Option.map_none, h, e1, e2, hL, List.take_length]
theorem loss_ok {ls gs : List Int} {a b : Int} {f n : Nat} {x : Int} (h : ∀ μ, F_is_kit [.d (kitD ls gs a b)] μ = .ok (.d (.bool true)) μ) (hf : f < ls.length) (n1 : 1 ≤ n) (n4 : n ≤ 4) (hx : ls[(f + n - 1) / n]? = some x) (μ : Mem) : F_loss_of [.d (kitD ls gs a b), .d (.int (f : Int)), .d (.int (n : Int))] μ = .ok (.d (.int x)) μ := by
  have e1 := check_kit_ok h
  have e2 := check_flow_ok ls gs a b (x := .int (f : Int)) rfl
  have hw : withinD 0 ((ls.length : Nat) - 1) (.int (f : Int)) = true := decide_eq_true (by omega)
  simp only [hw, if_true] at e2
  have e3 := within_int (n : Int) 1 4
  have hw3 : decide ((1 : Int) ≤ (n : Int) ∧ (n : Int) ≤ 4) = true := decide_eq_true (by omega)
  have e4 := raw_loss_ok ls gs a b f n x (by omega) (by omega) hx
  simp only [F_loss_of, C_loss_of, cV_, cK_, cBin_, cCall_, cCons_, cNil_, cH_, cD_, cA_, cT_, cIf_, cAndT_, cOrT_, cNotT_, cAndV_, cOrV_, cNotV_, cChain_, cSl_, cPart_, cNoPart_, cMt_, cIsi_, cNeg_, cFn_, sNil_, sCons_, sIf_, sSet_, sPar_, sExpr_, sRet_, sRetN_, sRaise_, sBrk_, sCnt_, sStore_, fnOf_, iAny_, iR1_, iR2_, iEn_, gN_, gT_, gsN_, gsC_, stepS_, cYes_, lcF_, bT, iP, isTy, tyName, opTup, opLst, opAdd, opII, cDivB, opMul, opOrd, opEq, kD_nn, kD_ii, kD_bb, kD_ss, kD_ni, kD_nb, kD_ns, kD_in, kD_bn, kD_sn, kD_is, kD_si, kD_bs, kD_sb, kD_tuple1, kD_tuple2, kD_list1, kD_list2, kD_ib, kD_bi, opIsN, opIx, opSl, one, fLen, fInt, fAbs, fTup, fList, see, hold, toD, adopt, Rs.bind, Rs.thenS, opStore, expo, itmOf, wipeR, mAppend, mExtend, sAsg_, List.mapM_cons, List.mapM_nil, Option.bind_eq_bind, Option.bind_some, Option.pure_def, List.append_assoc, sz0, sy0, sz1, sy1, sz2, sy2, sz3, sy3, sz4, sy4, sz5, sy5, sz6, sy6, sz7, sy7, sz8, sy8, sz9, sy9, sz10, sy10, sz11, sy11, sz12, sy12, sz13, sy13, sz14, sy14, sz15, sy15, sz16, sy16, sz17, sy17, sz18, sy18, sz19, sy19, sz20, sy20, sz21, sy21, sz22, sy22, sz23, sy23, sz24, sy24, sz25, sy25, sz26, sy26, sz27, sy27, sz28, sy28, sz29, sy29, sz30, sy30, sz31, sy31, sz32, sy32, sz33, sy33, sz34, sy34, sz35, sy35, sz36, sy36, sz37, sy37, sz38, sy38, sz39, sy39, sz40, sy40, sPar3_, iZp_, cIsE_, zipOf, isL, opRepT, opIsB, fMax2, fMin2, mCountB, mIndexB, bools0, bools1, List.getElem?_cons_zero, List.getElem?_cons_succ, List.map_cons, List.map_nil, List.length_cons, List.length_nil, List.cons_append, List.nil_append, List.replicate_succ, List.replicate_zero, List.set_cons_zero, List.set_cons_succ, Nat.zero_add, Nat.reduceAdd, Nat.reduceSub, ↓reduceIte, reduceCtorEq, String.reduceBEq, kb_NoneType_int, kb_NoneType_bool, kb_NoneType_str, kb_NoneType_tuple, kb_NoneType_list, kb_NoneType_dict, kb_bool_int, kb_bool_bool, kb_bool_str, kb_bool_tuple, kb_bool_list, kb_bool_dict, kb_int_int, kb_int_bool, kb_int_str, kb_int_tuple, kb_int_list, kb_int_dict, kb_str_int, kb_str_bool, kb_str_str, kb_str_tuple, kb_str_list, kb_str_dict, kb_list_int, kb_list_bool, kb_list_str, kb_list_tuple, kb_list_list, kb_list_dict, kb_tuple_int, kb_tuple_bool, kb_tuple_str, kb_tuple_tuple, kb_tuple_list, kb_tuple_dict, kb_dict_int, kb_dict_bool, kb_dict_str, kb_dict_tuple, kb_dict_list, kb_dict_dict, String.reduceEq, Int.reduceLT, Int.reduceLE, Int.reduceNeg, Int.reducePow, Nat.reducePow, Int.reduceToNat, Nat.reduceLT, Nat.reduceLeDiff, decide_true, decide_false, and_self, and_true, true_and, or_true, true_or, or_false, false_or, Bool.not_true, Bool.not_false, Bool.true_eq_false, Bool.false_eq_true, Option.map_some, Option.map_none, e1, e2, e3, hw3, e4, List.take_length]
theorem loss_bad {ls gs : List Int} {a b : Int} {n : D} (h : ∀ μ, F_is_kit [.d (kitD ls gs a b)] μ = .ok (.d (.bool true)) μ) (hf : 0 < ls.length) (hn : noDict n = true) (hb : withinD 1 4 n = false) (μ : Mem) : F_loss_of [.d (kitD ls gs a b), .d (.int 0), .d n] μ = .ex ⟨"NoNumber", none⟩ μ := by
  have e1 := check_kit_ok h
  have e2 := check_flow_ok ls gs a b (x := .int 0) rfl
  have hw : withinD 0 ((ls.length : Nat) - 1) (.int 0) = true := decide_eq_true (by omega)
  simp only [hw, if_true] at e2
  have e3 := within_ok n 1 4 hn
  simp only [F_loss_of, C_loss_of, cV_, cK_, cBin_, cCall_, cCons_, cNil_, cH_, cD_, cA_, cT_, cIf_, cAndT_, cOrT_, cNotT_, cAndV_, cOrV_, cNotV_, cChain_, cSl_, cPart_, cNoPart_, cMt_, cIsi_, cNeg_, cFn_, sNil_, sCons_, sIf_, sSet_, sPar_, sExpr_, sRet_, sRetN_, sRaise_, sBrk_, sCnt_, sStore_, fnOf_, iAny_, iR1_, iR2_, iEn_, gN_, gT_, gsN_, gsC_, stepS_, cYes_, lcF_, bT, iP, isTy, tyName, opTup, opLst, opAdd, opII, cDivB, opMul, opOrd, opEq, kD_nn, kD_ii, kD_bb, kD_ss, kD_ni, kD_nb, kD_ns, kD_in, kD_bn, kD_sn, kD_is, kD_si, kD_bs, kD_sb, kD_tuple1, kD_tuple2, kD_list1, kD_list2, kD_ib, kD_bi, opIsN, opIx, opSl, one, fLen, fInt, fAbs, fTup, fList, see, hold, toD, adopt, Rs.bind, Rs.thenS, opStore, expo, itmOf, wipeR, mAppend, mExtend, sAsg_, List.mapM_cons, List.mapM_nil, Option.bind_eq_bind, Option.bind_some, Option.pure_def, List.append_assoc, sz0, sy0, sz1, sy1, sz2, sy2, sz3, sy3, sz4, sy4, sz5, sy5, sz6, sy6, sz7, sy7, sz8, sy8, sz9, sy9, sz10, sy10, sz11, sy11, sz12, sy12, sz13, sy13, sz14, sy14, sz15, sy15, sz16, sy16, sz17, sy17, sz18, sy18, sz19, sy19, sz20, sy20, sz21, sy21, sz22, sy22, sz23, sy23, sz24, sy24, sz25, sy25, sz26, sy26, sz27, sy27, sz28, sy28, sz29, sy29, sz30, sy30, sz31, sy31, sz32, sy32, sz33, sy33, sz34, sy34, sz35, sy35, sz36, sy36, sz37, sy37, sz38, sy38, sz39, sy39, sz40, sy40, sPar3_, iZp_, cIsE_, zipOf, isL, opRepT, opIsB, fMax2, fMin2, mCountB, mIndexB, bools0, bools1, List.getElem?_cons_zero, List.getElem?_cons_succ, List.map_cons, List.map_nil, List.length_cons, List.length_nil, List.cons_append, List.nil_append, List.replicate_succ, List.replicate_zero, List.set_cons_zero, List.set_cons_succ, Nat.zero_add, Nat.reduceAdd, Nat.reduceSub, ↓reduceIte, reduceCtorEq, String.reduceBEq, kb_NoneType_int, kb_NoneType_bool, kb_NoneType_str, kb_NoneType_tuple, kb_NoneType_list, kb_NoneType_dict, kb_bool_int, kb_bool_bool, kb_bool_str, kb_bool_tuple, kb_bool_list, kb_bool_dict, kb_int_int, kb_int_bool, kb_int_str, kb_int_tuple, kb_int_list, kb_int_dict, kb_str_int, kb_str_bool, kb_str_str, kb_str_tuple, kb_str_list, kb_str_dict, kb_list_int, kb_list_bool, kb_list_str, kb_list_tuple, kb_list_list, kb_list_dict, kb_tuple_int, kb_tuple_bool, kb_tuple_str, kb_tuple_tuple, kb_tuple_list, kb_tuple_dict, kb_dict_int, kb_dict_bool, kb_dict_str, kb_dict_tuple, kb_dict_list, kb_dict_dict, String.reduceEq, Int.reduceLT, Int.reduceLE, Int.reduceNeg, Int.reducePow, Nat.reducePow, Int.reduceToNat, Nat.reduceLT, Nat.reduceLeDiff, decide_true, decide_false, and_self, and_true, true_and, or_true, true_or, or_false, false_or, Bool.not_true, Bool.not_false, Bool.true_eq_false, Bool.false_eq_true, Option.map_some, Option.map_none, e1, e2, e3, hb, List.take_length]
end L28
set_option maxRecDepth 100000
set_option maxHeartbeats 1000000
namespace L28
open PySem PySem.Spec PyProof.Rows L2 Em
theorem upL_cons (x y : Int) (r : List Int) : upL (x :: y :: r) = (decide (x ≤ y) && upL (y :: r)) := rfl
theorem downL_cons (x y : Int) (r : List Int) : downL (x :: y :: r) = (decide (y ≤ x) && downL (y :: r)) := rfl
theorem upL_snoc (a b : Int) : ∀ xs : List Int, upL (xs ++ [a] ++ [b]) = (upL (xs ++ [a]) && decide (a ≤ b))
  | [] => by
    show (decide (a ≤ b) && true) = (true && decide (a ≤ b))
    simp
  | [x] => by
    show upL (x :: a :: [b]) = (upL (x :: a :: []) && _)
    rw [upL_cons, upL_cons, upL_cons]
    show (decide (x ≤ a) && (decide (a ≤ b) && true)) = ((decide (x ≤ a) && true) && decide (a ≤ b))
    simp
  | x :: y :: r => by
    have ih := upL_snoc a b (y :: r)
    show upL (x :: y :: (r ++ [a] ++ [b])) = (upL (x :: y :: (r ++ [a])) && _)
    rw [upL_cons, upL_cons]
    have ih' : upL (y :: (r ++ [a] ++ [b])) = (upL (y :: (r ++ [a])) && decide (a ≤ b)) := ih
    rw [ih', Bool.and_assoc]
theorem downL_snoc (a b : Int) : ∀ xs : List Int, downL (xs ++ [a] ++ [b]) = (downL (xs ++ [a]) && decide (b ≤ a))
  | [] => by
    show (decide (b ≤ a) && true) = (true && decide (b ≤ a))
    simp
  | [x] => by
    show downL (x :: a :: [b]) = (downL (x :: a :: []) && _)
    rw [downL_cons, downL_cons, downL_cons]
    show (decide (a ≤ x) && (decide (b ≤ a) && true)) = ((decide (a ≤ x) && true) && decide (b ≤ a))
    simp
  | x :: y :: r => by
    have ih := downL_snoc a b (y :: r)
    show downL (x :: y :: (r ++ [a] ++ [b])) = (downL (x :: y :: (r ++ [a])) && _)
    rw [downL_cons, downL_cons]
    have ih' : downL (y :: (r ++ [a] ++ [b])) = (downL (y :: (r ++ [a])) && decide (b ≤ a)) := ih
    rw [ih', Bool.and_assoc]
def bodyK : SC := (sCons (sExpr (cMt "list" mAppend (cV 1) (cCons (cD (cBin opAdd (cH (cBin opIx (cV 1) (cH (cNeg (cK (.int 1)))))) (cH (cFn 2 F__law_draw (cCons (cV 0) (cCons (cK (.int 7)) cNil)))))) cNil)))
  (sExpr (cMt "list" mAppend (cV 2) (cCons (cD (cCall fMax2 (cCons (cK (.int 0)) (cCons (cH (cBin opSub (cH (cBin opIx (cV 2) (cH (cNeg (cK (.int 1)))))) (cH (cFn 2 F__law_draw (cCons (cV 0) (cCons (cK (.int 10)) cNil)))))) cNil)))) cNil))))
theorem kit_body : C__law_kit = (sCons (sPar 1 2 (cA (cCall opLst (cCons (cK (.int 0)) cNil))) (cA (cCall opLst (cCons (cD (cFn 2 F__law_draw (cCons (cV 0) (cCons (cK (.int 60)) cNil)))) cNil))))
  (sCons (sFor (iR1 (cH (cBin opAdd (cK (.int 1)) (cH (cFn 2 F__law_draw (cCons (cV 0) (cCons (cK (.int 5)) cNil))))))) (gN 3) bodyK)
  (sRet (cCall opTup (cCons (cD (cCall (one fTup) (cCons (cV 1) cNil))) (cCons (cD (cCall (one fTup) (cCons (cV 2) cNil))) (cCons (cD (cFn 2 F__law_draw (cCons (cV 0) (cCons (cK (.int 9)) cNil)))) (cCons (cD (cBin opAdd (cK (.int 1)) (cH (cFn 2 F__law_draw (cCons (cV 0) (cCons (cK (.int 60)) cNil)))))) cNil)))))))) := rfl
theorem two0 {μ : Mem} {a b : Cell} : (μ ++ [a, b])[μ.length]? = some a := by simp
theorem two1 {μ : Mem} {a b : Cell} : (μ ++ [a, b])[μ.length + 1]? = some b := by simp
theorem two0s {μ : Mem} {a b c : Cell} : (μ ++ [a, b]).set μ.length c = μ ++ [c, b] := by simp
theorem two1s {μ : Mem} {a b c : Cell} : (μ ++ [a, b]).set (μ.length + 1) c = μ ++ [a, c] := by
  rw [List.set_append_right _ _ (by omega)]; simp
theorem lastI (xs : List Int) (a : Int) : L2.atI ((xs ++ [a]).map PyData.int) (-1) = some (.int a) := by
  rw [List.map_append]; exact atI_lastD
theorem bodyK_run {ls gs : List Int} {l g : Int} {μ : Mem} {d : D} {z : Option R} {n : Nat} (hn : n = μ.length) (hM : HM μ) (h1 : ls.length ≤ 100) (h2 : gs.length ≤ 100) : ∃ (r s : Int) (μ' : Mem), stepS (gN 3) bodyK d [some (.c 0), some (.c n), some (.c (n + 1)), z] (μ ++ [.lst ((ls ++ [l]).map .int), .lst ((gs ++ [g]).map .int)]) =
    .nx [some (.c 0), some (.c n), some (.c (n + 1)), some (.d d)] (μ' ++ [.lst ((ls ++ [l] ++ [l + r]).map .int), .lst ((gs ++ [g] ++ [max 0 (g - s)]).map .int)]) ∧ HM μ' ∧ μ'.length = μ.length ∧ 0 ≤ r ∧ r < 7 ∧ 0 ≤ s ∧ s < 10 := by
  subst hn
  obtain ⟨r, μ1, e1, hM1, hl1, r0, r1⟩ := draw_hm (m := 7) hM (by decide) (by decide) [.lst ((ls ++ [l]).map .int), .lst ((gs ++ [g]).map .int)]
  obtain ⟨s, μ2, e2, hM2, hl2, s0, s1⟩ := draw_hm (m := 10) hM1 (by decide) (by decide) [.lst ((ls ++ [l] ++ [l + r]).map .int), .lst ((gs ++ [g]).map .int)]
  refine ⟨r, s, μ2, ?_, hM2, by omega, r0, r1, s0, s1⟩
  have i1 := lastI ls l
  have i2 := lastI gs g
  have sz1 : ((ls ++ [l]).map PyData.int).length < sizeLine := Nat.lt_of_lt_of_le (by simp; omega : ((ls ++ [l]).map PyData.int).length < 200) (nat_sizeLine (by omega))
  have sz2 : ((gs ++ [g]).map PyData.int).length < sizeLine := Nat.lt_of_lt_of_le (by simp; omega : ((gs ++ [g]).map PyData.int).length < 200) (nat_sizeLine (by omega))
  have a1 : (ls ++ [l]).map PyData.int ++ [.int (l + r)] = (ls ++ [l] ++ [l + r]).map .int := by simp
  have a2 : (gs ++ [g]).map PyData.int ++ [.int (max 0 (g - s))] = (gs ++ [g] ++ [max 0 (g - s)]).map .int := by simp
  generalize hA : (ls ++ [l]).map PyData.int = A at *
  generalize hB : (gs ++ [g]).map PyData.int = B at *
  generalize hA' : (ls ++ [l] ++ [l + r]).map PyData.int = A' at *
  generalize hB' : (gs ++ [g] ++ [max 0 (g - s)]).map PyData.int = B' at *
  have t0 := two0 (μ := μ) (a := .lst A) (b := .lst B)
  have u0 : (μ1 ++ [Cell.lst A, .lst B])[μ.length]? = some (.lst A) := by rw [← hl1]; exact two0
  have u0s : (μ1 ++ [Cell.lst A, .lst B]).set μ.length (.lst A') = μ1 ++ [.lst A', .lst B] := by rw [← hl1]; exact two0s
  have t1 : (μ1 ++ [Cell.lst A', .lst B])[μ.length + 1]? = some (.lst B) := by rw [← hl1]; exact two1
  have v1 : (μ2 ++ [Cell.lst A', .lst B])[μ.length + 1]? = some (.lst B) := by rw [← hl1, ← hl2]; exact two1
  have v1s : (μ2 ++ [Cell.lst A', .lst B]).set (μ.length + 1) (.lst B') = μ2 ++ [.lst A', .lst B'] := by rw [← hl1, ← hl2]; exact two1s
  simp only [bodyK, cV_, cK_, cBin_, cCall_, cCons_, cNil_, cH_, cD_, cA_, cT_, cIf_, cAndT_, cOrT_, cNotT_, cAndV_, cOrV_, cNotV_, cChain_, cSl_, cPart_, cNoPart_, cMt_, cIsi_, cNeg_, cFn_, sNil_, sCons_, sIf_, sSet_, sPar_, sExpr_, sRet_, sRetN_, sRaise_, sBrk_, sCnt_, sStore_, fnOf_, iAny_, iR1_, iR2_, iEn_, gN_, gT_, gsN_, gsC_, stepS_, cYes_, lcF_, bT, iP, isTy, tyName, opTup, opLst, opAdd, opII, cDivB, opMul, opOrd, opEq, kD_nn, kD_ii, kD_bb, kD_ss, kD_ni, kD_nb, kD_ns, kD_in, kD_bn, kD_sn, kD_is, kD_si, kD_bs, kD_sb, kD_tuple1, kD_tuple2, kD_list1, kD_list2, kD_ib, kD_bi, opIsN, opIx, opSl, one, fLen, fInt, fAbs, fTup, fList, see, hold, toD, adopt, Rs.bind, Rs.thenS, opStore, expo, itmOf, wipeR, mAppend, mExtend, sAsg_, List.mapM_cons, List.mapM_nil, Option.bind_eq_bind, Option.bind_some, Option.pure_def, List.append_assoc, sz0, sy0, sz1, sy1, sz2, sy2, sz3, sy3, sz4, sy4, sz5, sy5, sz6, sy6, sz7, sy7, sz8, sy8, sz9, sy9, sz10, sy10, sz11, sy11, sz12, sy12, sz13, sy13, sz14, sy14, sz15, sy15, sz16, sy16, sz17, sy17, sz18, sy18, sz19, sy19, sz20, sy20, sz21, sy21, sz22, sy22, sz23, sy23, sz24, sy24, sz25, sy25, sz26, sy26, sz27, sy27, sz28, sy28, sz29, sy29, sz30, sy30, sz31, sy31, sz32, sy32, sz33, sy33, sz34, sy34, sz35, sy35, sz36, sy36, sz37, sy37, sz38, sy38, sz39, sy39, sz40, sy40, sPar3_, iZp_, cIsE_, zipOf, isL, opRepT, opIsB, fMax2, fMin2, mCountB, mIndexB, bools0, bools1, List.getElem?_cons_zero, List.getElem?_cons_succ, List.map_cons, List.map_nil, List.length_cons, List.length_nil, List.cons_append, List.nil_append, List.replicate_succ, List.replicate_zero, List.set_cons_zero, List.set_cons_succ, Nat.zero_add, Nat.reduceAdd, Nat.reduceSub, ↓reduceIte, reduceCtorEq, String.reduceBEq, kb_NoneType_int, kb_NoneType_bool, kb_NoneType_str, kb_NoneType_tuple, kb_NoneType_list, kb_NoneType_dict, kb_bool_int, kb_bool_bool, kb_bool_str, kb_bool_tuple, kb_bool_list, kb_bool_dict, kb_int_int, kb_int_bool, kb_int_str, kb_int_tuple, kb_int_list, kb_int_dict, kb_str_int, kb_str_bool, kb_str_str, kb_str_tuple, kb_str_list, kb_str_dict, kb_list_int, kb_list_bool, kb_list_str, kb_list_tuple, kb_list_list, kb_list_dict, kb_tuple_int, kb_tuple_bool, kb_tuple_str, kb_tuple_tuple, kb_tuple_list, kb_tuple_dict, kb_dict_int, kb_dict_bool, kb_dict_str, kb_dict_tuple, kb_dict_list, kb_dict_dict, String.reduceEq, Int.reduceLT, Int.reduceLE, Int.reduceNeg, Int.reducePow, Nat.reducePow, Int.reduceToNat, Nat.reduceLT, Nat.reduceLeDiff, decide_true, decide_false, and_self, and_true, true_and, or_true, true_or, or_false, false_or, Bool.not_true, Bool.not_false, Bool.true_eq_false, Bool.false_eq_true, Option.map_some, Option.map_none, t0, i1, e1, u0, if_pos sz1, a1, u0s, t1, i2, e2, v1, max2, if_pos sz2, a2, v1s]
theorem kit_ok {μ : Mem} (hM : HM μ) : ∃ (ls gs : List Int) (a b : Int) (μ' : Mem), F__law_kit [.c 0] μ = .ok (.d (kitD ls gs a b)) μ' ∧ HM μ' ∧ kitB ls gs a b = true ∧ ls.length = gs.length ∧ 2 ≤ ls.length ∧ ls.length ≤ 6 := by
  obtain ⟨g0, μ1, e1, hM1, hl1, g00, g01⟩ := draw_hm (m := 60) hM (by decide) (by decide) [.lst [.int 0]]
  obtain ⟨m, μ2, e2, hM2, hl2, m0, m1⟩ := draw_hm (m := 5) hM1 (by decide) (by decide) [.lst [.int 0], .lst [.int g0]]
  obtain ⟨ρ', μ', ef, ls, gs, l, g, z, μ3, rfl, rfl, hM3, hl3, k1, k2, k3, k4, k5, k6, k7⟩ := for_inv (b := stepS (gN 3) bodyK) (itm_rng 0 (1 + m).toNat) (fun i ρ μ' => ∃ (ls gs : List Int) (l g : Int) (z : Option R) (μ3 : Mem), ρ = [some (.c 0), some (.c μ.length), some (.c (μ.length + 1)), z] ∧ μ' = μ3 ++ [.lst ((ls ++ [l]).map .int), .lst ((gs ++ [g]).map .int)] ∧ HM μ3 ∧ μ3.length = μ.length ∧ ls.length = i ∧ gs.length = i ∧ (ls ++ [l]).headD 1 = 0 ∧ upL (ls ++ [l]) = true ∧ downL (gs ++ [g]) = true ∧ (∀ x ∈ ls ++ [l], 0 ≤ x ∧ x ≤ 6 * i) ∧ ∀ x ∈ gs ++ [g], 0 ≤ x ∧ x ≤ 59) (fun i d ρ μ' hd hI => by
    obtain ⟨ls, gs, l, g, z, μ3, rfl, rfl, hM3, hl3, k1, k2, k3, k4, k5, k6, k7⟩ := hI
    have hi : i < (1 + m).toNat := by
      have := (List.getElem?_eq_some_iff.mp hd).1
      simpa [rngD] using this
    obtain ⟨r, s, μ4, e4, hM4, hl4, r0, r1, s0, s1⟩ := bodyK_run (ls := ls) (gs := gs) (l := l) (g := g) (d := d) (z := z) (n := μ.length) hl3.symm hM3 (by omega) (by omega)
    have kl := k6 l (by simp)
    have kg := k7 g (by simp)
    refine ⟨_, _, e4, ls ++ [l], gs ++ [g], l + r, max 0 (g - s), some (.d d), μ4, rfl, rfl, hM4, by omega, by simp; omega, by simp; omega, ?_, ?_, ?_, ?_, ?_⟩
    · cases ls with
      | nil => exact k3
      | cons x t => exact k3
    · rw [upL_snoc, k4]; simp; omega
    · rw [downL_snoc, k5]; simp; omega
    · intro x hx
      rcases List.mem_append.mp hx with hx | hx
      · have := k6 x hx; omega
      · simp at hx; omega
    · intro x hx
      rcases List.mem_append.mp hx with hx | hx
      · exact k7 x hx
      · simp at hx; omega) (ρ := [some (.c 0), some (.c μ.length), some (.c (μ.length + 1)), none]) (μ := μ2 ++ [.lst [.int 0], .lst [.int g0]]) ⟨[], [], 0, g0, none, μ2, rfl, rfl, hM2, by omega, rfl, rfl, rfl, rfl, rfl, by simp, by simp; omega⟩
  have hci : iR1 (cH (cBin opAdd (cK (.int 1)) (cH (cFn 2 F__law_draw (cCons (cV 0) (cCons (cK (.int 5)) cNil)))))) [some (.c 0), some (.c μ.length), some (.c (μ.length + 1)), none] (μ1 ++ [.lst [.int 0], .lst [.int g0]]) = .ok (.rng 0 1 (1 + m).toNat) (μ2 ++ [.lst [.int 0], .lst [.int g0]]) := iR1_ok (by simp only [cV_, cK_, cBin_, cCall_, cCons_, cNil_, cH_, cD_, cA_, cT_, cIf_, cAndT_, cOrT_, cNotT_, cAndV_, cOrV_, cNotV_, cChain_, cSl_, cPart_, cNoPart_, cMt_, cIsi_, cNeg_, cFn_, sNil_, sCons_, sIf_, sSet_, sPar_, sExpr_, sRet_, sRetN_, sRaise_, sBrk_, sCnt_, sStore_, fnOf_, iAny_, iR1_, iR2_, iEn_, gN_, gT_, gsN_, gsC_, stepS_, cYes_, lcF_, bT, iP, isTy, tyName, opTup, opLst, opAdd, opII, cDivB, opMul, opOrd, opEq, kD_nn, kD_ii, kD_bb, kD_ss, kD_ni, kD_nb, kD_ns, kD_in, kD_bn, kD_sn, kD_is, kD_si, kD_bs, kD_sb, kD_tuple1, kD_tuple2, kD_list1, kD_list2, kD_ib, kD_bi, opIsN, opIx, opSl, one, fLen, fInt, fAbs, fTup, fList, see, hold, toD, adopt, Rs.bind, Rs.thenS, opStore, expo, itmOf, wipeR, mAppend, mExtend, sAsg_, List.mapM_cons, List.mapM_nil, Option.bind_eq_bind, Option.bind_some, Option.pure_def, List.append_assoc, sz0, sy0, sz1, sy1, sz2, sy2, sz3, sy3, sz4, sy4, sz5, sy5, sz6, sy6, sz7, sy7, sz8, sy8, sz9, sy9, sz10, sy10, sz11, sy11, sz12, sy12, sz13, sy13, sz14, sy14, sz15, sy15, sz16, sy16, sz17, sy17, sz18, sy18, sz19, sy19, sz20, sy20, sz21, sy21, sz22, sy22, sz23, sy23, sz24, sy24, sz25, sy25, sz26, sy26, sz27, sy27, sz28, sy28, sz29, sy29, sz30, sy30, sz31, sy31, sz32, sy32, sz33, sy33, sz34, sy34, sz35, sy35, sz36, sy36, sz37, sy37, sz38, sy38, sz39, sy39, sz40, sy40, sPar3_, iZp_, cIsE_, zipOf, isL, opRepT, opIsB, fMax2, fMin2, mCountB, mIndexB, bools0, bools1, List.getElem?_cons_zero, List.getElem?_cons_succ, List.map_cons, List.map_nil, List.length_cons, List.length_nil, List.cons_append, List.nil_append, List.replicate_succ, List.replicate_zero, List.set_cons_zero, List.set_cons_succ, Nat.zero_add, Nat.reduceAdd, Nat.reduceSub, ↓reduceIte, reduceCtorEq, String.reduceBEq, kb_NoneType_int, kb_NoneType_bool, kb_NoneType_str, kb_NoneType_tuple, kb_NoneType_list, kb_NoneType_dict, kb_bool_int, kb_bool_bool, kb_bool_str, kb_bool_tuple, kb_bool_list, kb_bool_dict, kb_int_int, kb_int_bool, kb_int_str, kb_int_tuple, kb_int_list, kb_int_dict, kb_str_int, kb_str_bool, kb_str_str, kb_str_tuple, kb_str_list, kb_str_dict, kb_list_int, kb_list_bool, kb_list_str, kb_list_tuple, kb_list_list, kb_list_dict, kb_tuple_int, kb_tuple_bool, kb_tuple_str, kb_tuple_tuple, kb_tuple_list, kb_tuple_dict, kb_dict_int, kb_dict_bool, kb_dict_str, kb_dict_tuple, kb_dict_list, kb_dict_dict, String.reduceEq, Int.reduceLT, Int.reduceLE, Int.reduceNeg, Int.reducePow, Nat.reducePow, Int.reduceToNat, Nat.reduceLT, Nat.reduceLeDiff, decide_true, decide_false, and_self, and_true, true_and, or_true, true_or, or_false, false_or, Bool.not_true, Bool.not_false, Bool.true_eq_false, Bool.false_eq_true, Option.map_some, Option.map_none, e2]) (by omega) (by omega)
  have hfor := (sFor_eq (g := gN 3) (b := bodyK) (itm_rng 0 (1 + m).toNat) hci).trans ef
  have hnn : (rngD 0 (1 + m).toNat).length = (1 + m).toNat := by simp [rngD]
  rw [hnn] at k1 k2 k6
  obtain ⟨a, μ4, e4, hM4, hl4, a0, a1⟩ := draw_hm (m := 9) hM3 (by decide) (by decide) [.lst ((ls ++ [l]).map .int), .lst ((gs ++ [g]).map .int)]
  obtain ⟨b, μ5, e5, hM5, hl5, b0, b1⟩ := draw_hm (m := 60) hM4 (by decide) (by decide) [.lst ((ls ++ [l]).map .int), .lst ((gs ++ [g]).map .int)]
  have t0 : (μ3 ++ [Cell.lst ((ls ++ [l]).map .int), .lst ((gs ++ [g]).map .int)])[μ.length]? = some (.lst ((ls ++ [l]).map .int)) := by rw [← hl3]; exact two0
  have t1 : (μ3 ++ [Cell.lst ((ls ++ [l]).map .int), .lst ((gs ++ [g]).map .int)])[μ.length + 1]? = some (.lst ((gs ++ [g]).map .int)) := by rw [← hl3]; exact two1
  have tk : List.take μ.length (μ5 ++ [Cell.lst ((ls ++ [l]).map .int), .lst ((gs ++ [g]).map .int)]) = μ5 := by
    rw [show μ.length = μ5.length by omega]; exact List.take_left
  have n1 : (μ1 ++ [Cell.lst [.int 0]]).length = μ.length + 1 := by simp [hl1]
  refine ⟨ls ++ [l], gs ++ [g], a, 1 + b, μ5, ?_, hM5, ?_, by simp [k1, k2], by simp; omega, by simp; omega⟩
  · generalize hA : (ls ++ [l]).map PyData.int = A at *
    generalize hB : (gs ++ [g]).map PyData.int = B at *
    simp only [F__law_kit, kit_body, cV_, cK_, cBin_, cCall_, cCons_, cNil_, cH_, cD_, cA_, cT_, cIf_, cAndT_, cOrT_, cNotT_, cAndV_, cOrV_, cNotV_, cChain_, cSl_, cPart_, cNoPart_, cMt_, cIsi_, cNeg_, cFn_, sNil_, sCons_, sIf_, sSet_, sPar_, sExpr_, sRet_, sRetN_, sRaise_, sBrk_, sCnt_, sStore_, fnOf_, iAny_, iR1_, iR2_, iEn_, gN_, gT_, gsN_, gsC_, stepS_, cYes_, lcF_, bT, iP, isTy, tyName, opTup, opLst, opAdd, opII, cDivB, opMul, opOrd, opEq, kD_nn, kD_ii, kD_bb, kD_ss, kD_ni, kD_nb, kD_ns, kD_in, kD_bn, kD_sn, kD_is, kD_si, kD_bs, kD_sb, kD_tuple1, kD_tuple2, kD_list1, kD_list2, kD_ib, kD_bi, opIsN, opIx, opSl, one, fLen, fInt, fAbs, fTup, fList, see, hold, toD, adopt, Rs.bind, Rs.thenS, opStore, expo, itmOf, wipeR, mAppend, mExtend, sAsg_, List.mapM_cons, List.mapM_nil, Option.bind_eq_bind, Option.bind_some, Option.pure_def, List.append_assoc, sz0, sy0, sz1, sy1, sz2, sy2, sz3, sy3, sz4, sy4, sz5, sy5, sz6, sy6, sz7, sy7, sz8, sy8, sz9, sy9, sz10, sy10, sz11, sy11, sz12, sy12, sz13, sy13, sz14, sy14, sz15, sy15, sz16, sy16, sz17, sy17, sz18, sy18, sz19, sy19, sz20, sy20, sz21, sy21, sz22, sy22, sz23, sy23, sz24, sy24, sz25, sy25, sz26, sy26, sz27, sy27, sz28, sy28, sz29, sy29, sz30, sy30, sz31, sy31, sz32, sy32, sz33, sy33, sz34, sy34, sz35, sy35, sz36, sy36, sz37, sy37, sz38, sy38, sz39, sy39, sz40, sy40, sPar3_, iZp_, cIsE_, zipOf, isL, opRepT, opIsB, fMax2, fMin2, mCountB, mIndexB, bools0, bools1, List.getElem?_cons_zero, List.getElem?_cons_succ, List.map_cons, List.map_nil, List.length_cons, List.length_nil, List.cons_append, List.nil_append, List.replicate_succ, List.replicate_zero, List.set_cons_zero, List.set_cons_succ, Nat.zero_add, Nat.reduceAdd, Nat.reduceSub, ↓reduceIte, reduceCtorEq, String.reduceBEq, kb_NoneType_int, kb_NoneType_bool, kb_NoneType_str, kb_NoneType_tuple, kb_NoneType_list, kb_NoneType_dict, kb_bool_int, kb_bool_bool, kb_bool_str, kb_bool_tuple, kb_bool_list, kb_bool_dict, kb_int_int, kb_int_bool, kb_int_str, kb_int_tuple, kb_int_list, kb_int_dict, kb_str_int, kb_str_bool, kb_str_str, kb_str_tuple, kb_str_list, kb_str_dict, kb_list_int, kb_list_bool, kb_list_str, kb_list_tuple, kb_list_list, kb_list_dict, kb_tuple_int, kb_tuple_bool, kb_tuple_str, kb_tuple_tuple, kb_tuple_list, kb_tuple_dict, kb_dict_int, kb_dict_bool, kb_dict_str, kb_dict_tuple, kb_dict_list, kb_dict_dict, String.reduceEq, Int.reduceLT, Int.reduceLE, Int.reduceNeg, Int.reducePow, Nat.reducePow, Int.reduceToNat, Nat.reduceLT, Nat.reduceLeDiff, decide_true, decide_false, and_self, and_true, true_and, or_true, true_or, or_false, false_or, Bool.not_true, Bool.not_false, Bool.true_eq_false, Bool.false_eq_true, Option.map_some, Option.map_none, e1, n1, List.append_assoc, hfor, t0, t1, e4, e5, tk, kitD, hA, hB]
  · have p1 : presL (ls ++ [l]) = true := by
      unfold presL
      simp only [Bool.and_eq_true, decide_eq_true_eq, List.all_eq_true]
      exact ⟨by simp; omega, fun x hx => by have := k6 x hx; omega⟩
    have p2 : presL (gs ++ [g]) = true := by
      unfold presL
      simp only [Bool.and_eq_true, decide_eq_true_eq, List.all_eq_true]
      exact ⟨by simp; omega, fun x hx => by have := k7 x hx; omega⟩
    unfold kitB
    rw [p1, p2, k3, k4, k5]
    simp [k1, k2]
    omega
end L28
set_option maxRecDepth 100000
set_option maxHeartbeats 1000000
namespace L28
open PySem PySem.Spec PyProof.Rows L2 Em
theorem one0 {μ : Mem} {a : Cell} : (μ ++ [a])[μ.length]? = some a := by simp
theorem one0s {μ : Mem} {a c : Cell} : (μ ++ [a]).set μ.length c = μ ++ [c] := by simp
/-! ### rises -/
def bodyR : SC := (sExpr (cMt "list" mAppend (cV 2) (cCons (cD (cFn 2 F__law_any (cCons (cV 0) (cCons (cH (cCall opLst (cCons (cK (.int 0)) (cCons (cK (.int 0)) (cCons (cK (.int 2)) (cCons (cK (.int 5)) (cCons (cD (cNeg (cK (.int 3)))) (cCons (cD (cBin opSub (cH (cFn 2 F__law_draw (cCons (cV 0) (cCons (cK (.int 21)) cNil)))) (cK (.int 10)))) cNil)))))))) cNil)))) cNil)))
theorem rises_body : C__law_rises = (sCons (sSet 2 (cA (cCall opLst cNil)))
  (sCons (sFor (iR1 (cH (cBin opAdd (cK (.int 1)) (cH (cFn 2 F__law_draw (cCons (cV 0) (cCons (cV 1) cNil))))))) (gN 3) bodyR)
  (sRet (cCall (one fTup) (cCons (cV 2) cNil))))) := rfl
theorem rises_ok {μ : Mem} (hM : HM μ) : ∃ (rs : List Int) (μ' : Mem), F__law_rises [.c 0, .d (.int 5)] μ = .ok (.d (.tuple (rs.map .int))) μ' ∧ HM μ' ∧ 1 ≤ rs.length ∧ rs.length ≤ 5 ∧ ∀ x ∈ rs, -10 ≤ x ∧ x ≤ 10 := by
  obtain ⟨m, μ2, e2, hM2, hl2, m0, m1⟩ := draw_hm (m := 5) hM (by decide) (by decide) [.lst []]
  obtain ⟨ρ', μ', ef, rs, z, μ3, rfl, rfl, hM3, hl3, k1, k2⟩ := for_inv (b := stepS (gN 3) bodyR) (itm_rng 0 (1 + m).toNat) (fun i ρ μ' => ∃ (rs : List Int) (z : Option R) (μ3 : Mem), ρ = [some (.c 0), some (.d (.int 5)), some (.c μ.length), z] ∧ μ' = μ3 ++ [.lst (rs.map .int)] ∧ HM μ3 ∧ μ3.length = μ.length ∧ rs.length = i ∧ ∀ x ∈ rs, -10 ≤ x ∧ x ≤ 10) (fun i d ρ μ' hd hI => by
    obtain ⟨rs, z, μ3, rfl, rfl, hM3, hl3, k1, k2⟩ := hI
    have hi : i < (1 + m).toNat := by
      have := (List.getElem?_eq_some_iff.mp hd).1
      simpa [rngD] using this
    obtain ⟨r, μ4, e4, hM4, hl4, r0, r1⟩ := draw_hm (m := 21) hM3 (by decide) (by decide) [.lst (rs.map .int)]
    obtain ⟨x, μ5, e5, hM5, hl5, hx⟩ := any_hm (xs := [.int 0, .int 0, .int 2, .int 5, .int (-3), .int (r - 10)]) hM4 (by simp) (by simp) [.lst (rs.map .int)]
    obtain ⟨y, rfl, y0, y1⟩ : ∃ y, x = .int y ∧ -10 ≤ y ∧ y ≤ 10 := by
      simp only [List.mem_cons, List.not_mem_nil, or_false] at hx
      rcases hx with rfl | rfl | rfl | rfl | rfl | rfl <;> exact ⟨_, rfl, by omega, by omega⟩
    have u1 : (μ5 ++ [Cell.lst (rs.map .int)])[μ.length]? = some (.lst (rs.map .int)) := by rw [show μ.length = μ5.length by omega]; exact one0
    have u1s : (μ5 ++ [Cell.lst (rs.map .int)]).set μ.length (.lst (rs.map .int ++ [.int y])) = μ5 ++ [.lst ((rs ++ [y]).map .int)] := by
      rw [show μ.length = μ5.length by omega, one0s, List.map_append]; rfl
    have u0 : (μ3 ++ [Cell.lst (rs.map .int)])[μ.length]? = some (.lst (rs.map .int)) := by rw [show μ.length = μ3.length by omega]; exact one0
    have sz : (rs.map PyData.int).length < sizeLine := Nat.lt_of_lt_of_le (by simp; omega : (rs.map PyData.int).length < 100) (nat_sizeLine (by omega))
    have neg3 : -(3 : Int) = -3 := rfl
    refine ⟨_, _, ?_, rs ++ [y], some (.d d), μ5, rfl, rfl, hM5, by omega, by simp; omega, fun x hx => ?_⟩
    · simp only [bodyR, cV_, cK_, cBin_, cCall_, cCons_, cNil_, cH_, cD_, cA_, cT_, cIf_, cAndT_, cOrT_, cNotT_, cAndV_, cOrV_, cNotV_, cChain_, cSl_, cPart_, cNoPart_, cMt_, cIsi_, cNeg_, cFn_, sNil_, sCons_, sIf_, sSet_, sPar_, sExpr_, sRet_, sRetN_, sRaise_, sBrk_, sCnt_, sStore_, fnOf_, iAny_, iR1_, iR2_, iEn_, gN_, gT_, gsN_, gsC_, stepS_, cYes_, lcF_, bT, iP, isTy, tyName, opTup, opLst, opAdd, opII, cDivB, opMul, opOrd, opEq, kD_nn, kD_ii, kD_bb, kD_ss, kD_ni, kD_nb, kD_ns, kD_in, kD_bn, kD_sn, kD_is, kD_si, kD_bs, kD_sb, kD_tuple1, kD_tuple2, kD_list1, kD_list2, kD_ib, kD_bi, opIsN, opIx, opSl, one, fLen, fInt, fAbs, fTup, fList, see, hold, toD, adopt, Rs.bind, Rs.thenS, opStore, expo, itmOf, wipeR, mAppend, mExtend, sAsg_, List.mapM_cons, List.mapM_nil, Option.bind_eq_bind, Option.bind_some, Option.pure_def, List.append_assoc, sz0, sy0, sz1, sy1, sz2, sy2, sz3, sy3, sz4, sy4, sz5, sy5, sz6, sy6, sz7, sy7, sz8, sy8, sz9, sy9, sz10, sy10, sz11, sy11, sz12, sy12, sz13, sy13, sz14, sy14, sz15, sy15, sz16, sy16, sz17, sy17, sz18, sy18, sz19, sy19, sz20, sy20, sz21, sy21, sz22, sy22, sz23, sy23, sz24, sy24, sz25, sy25, sz26, sy26, sz27, sy27, sz28, sy28, sz29, sy29, sz30, sy30, sz31, sy31, sz32, sy32, sz33, sy33, sz34, sy34, sz35, sy35, sz36, sy36, sz37, sy37, sz38, sy38, sz39, sy39, sz40, sy40, sPar3_, iZp_, cIsE_, zipOf, isL, opRepT, opIsB, fMax2, fMin2, mCountB, mIndexB, bools0, bools1, List.getElem?_cons_zero, List.getElem?_cons_succ, List.map_cons, List.map_nil, List.length_cons, List.length_nil, List.cons_append, List.nil_append, List.replicate_succ, List.replicate_zero, List.set_cons_zero, List.set_cons_succ, Nat.zero_add, Nat.reduceAdd, Nat.reduceSub, ↓reduceIte, reduceCtorEq, String.reduceBEq, kb_NoneType_int, kb_NoneType_bool, kb_NoneType_str, kb_NoneType_tuple, kb_NoneType_list, kb_NoneType_dict, kb_bool_int, kb_bool_bool, kb_bool_str, kb_bool_tuple, kb_bool_list, kb_bool_dict, kb_int_int, kb_int_bool, kb_int_str, kb_int_tuple, kb_int_list, kb_int_dict, kb_str_int, kb_str_bool, kb_str_str, kb_str_tuple, kb_str_list, kb_str_dict, kb_list_int, kb_list_bool, kb_list_str, kb_list_tuple, kb_list_list, kb_list_dict, kb_tuple_int, kb_tuple_bool, kb_tuple_str, kb_tuple_tuple, kb_tuple_list, kb_tuple_dict, kb_dict_int, kb_dict_bool, kb_dict_str, kb_dict_tuple, kb_dict_list, kb_dict_dict, String.reduceEq, Int.reduceLT, Int.reduceLE, Int.reduceNeg, Int.reducePow, Nat.reducePow, Int.reduceToNat, Nat.reduceLT, Nat.reduceLeDiff, decide_true, decide_false, and_self, and_true, true_and, or_true, true_or, or_false, false_or, Bool.not_true, Bool.not_false, Bool.true_eq_false, Bool.false_eq_true, Option.map_some, Option.map_none, u0, e4, e5, u1, if_pos sz, u1s]
    · rcases List.mem_append.mp hx with hx | hx
      · exact k2 x hx
      · simp at hx; omega) (ρ := [some (.c 0), some (.d (.int 5)), some (.c μ.length), none]) (μ := μ2 ++ [.lst []]) ⟨[], none, μ2, rfl, rfl, hM2, hl2, rfl, by simp⟩
  have hci : iR1 (cH (cBin opAdd (cK (.int 1)) (cH (cFn 2 F__law_draw (cCons (cV 0) (cCons (cV 1) cNil)))))) [some (.c 0), some (.d (.int 5)), some (.c μ.length), none] (μ ++ [.lst []]) = .ok (.rng 0 1 (1 + m).toNat) (μ2 ++ [.lst []]) := iR1_ok (by simp only [cV_, cK_, cBin_, cCall_, cCons_, cNil_, cH_, cD_, cA_, cT_, cIf_, cAndT_, cOrT_, cNotT_, cAndV_, cOrV_, cNotV_, cChain_, cSl_, cPart_, cNoPart_, cMt_, cIsi_, cNeg_, cFn_, sNil_, sCons_, sIf_, sSet_, sPar_, sExpr_, sRet_, sRetN_, sRaise_, sBrk_, sCnt_, sStore_, fnOf_, iAny_, iR1_, iR2_, iEn_, gN_, gT_, gsN_, gsC_, stepS_, cYes_, lcF_, bT, iP, isTy, tyName, opTup, opLst, opAdd, opII, cDivB, opMul, opOrd, opEq, kD_nn, kD_ii, kD_bb, kD_ss, kD_ni, kD_nb, kD_ns, kD_in, kD_bn, kD_sn, kD_is, kD_si, kD_bs, kD_sb, kD_tuple1, kD_tuple2, kD_list1, kD_list2, kD_ib, kD_bi, opIsN, opIx, opSl, one, fLen, fInt, fAbs, fTup, fList, see, hold, toD, adopt, Rs.bind, Rs.thenS, opStore, expo, itmOf, wipeR, mAppend, mExtend, sAsg_, List.mapM_cons, List.mapM_nil, Option.bind_eq_bind, Option.bind_some, Option.pure_def, List.append_assoc, sz0, sy0, sz1, sy1, sz2, sy2, sz3, sy3, sz4, sy4, sz5, sy5, sz6, sy6, sz7, sy7, sz8, sy8, sz9, sy9, sz10, sy10, sz11, sy11, sz12, sy12, sz13, sy13, sz14, sy14, sz15, sy15, sz16, sy16, sz17, sy17, sz18, sy18, sz19, sy19, sz20, sy20, sz21, sy21, sz22, sy22, sz23, sy23, sz24, sy24, sz25, sy25, sz26, sy26, sz27, sy27, sz28, sy28, sz29, sy29, sz30, sy30, sz31, sy31, sz32, sy32, sz33, sy33, sz34, sy34, sz35, sy35, sz36, sy36, sz37, sy37, sz38, sy38, sz39, sy39, sz40, sy40, sPar3_, iZp_, cIsE_, zipOf, isL, opRepT, opIsB, fMax2, fMin2, mCountB, mIndexB, bools0, bools1, List.getElem?_cons_zero, List.getElem?_cons_succ, List.map_cons, List.map_nil, List.length_cons, List.length_nil, List.cons_append, List.nil_append, List.replicate_succ, List.replicate_zero, List.set_cons_zero, List.set_cons_succ, Nat.zero_add, Nat.reduceAdd, Nat.reduceSub, ↓reduceIte, reduceCtorEq, String.reduceBEq, kb_NoneType_int, kb_NoneType_bool, kb_NoneType_str, kb_NoneType_tuple, kb_NoneType_list, kb_NoneType_dict, kb_bool_int, kb_bool_bool, kb_bool_str, kb_bool_tuple, kb_bool_list, kb_bool_dict, kb_int_int, kb_int_bool, kb_int_str, kb_int_tuple, kb_int_list, kb_int_dict, kb_str_int, kb_str_bool, kb_str_str, kb_str_tuple, kb_str_list, kb_str_dict, kb_list_int, kb_list_bool, kb_list_str, kb_list_tuple, kb_list_list, kb_list_dict, kb_tuple_int, kb_tuple_bool, kb_tuple_str, kb_tuple_tuple, kb_tuple_list, kb_tuple_dict, kb_dict_int, kb_dict_bool, kb_dict_str, kb_dict_tuple, kb_dict_list, kb_dict_dict, String.reduceEq, Int.reduceLT, Int.reduceLE, Int.reduceNeg, Int.reducePow, Nat.reducePow, Int.reduceToNat, Nat.reduceLT, Nat.reduceLeDiff, decide_true, decide_false, and_self, and_true, true_and, or_true, true_or, or_false, false_or, Bool.not_true, Bool.not_false, Bool.true_eq_false, Bool.false_eq_true, Option.map_some, Option.map_none, e2]) (by omega) (by omega)
  have hfor := (sFor_eq (g := gN 3) (b := bodyR) (itm_rng 0 (1 + m).toNat) hci).trans ef
  have hnn : (rngD 0 (1 + m).toNat).length = (1 + m).toNat := by simp [rngD]
  rw [hnn] at k1
  have u1 : (μ3 ++ [Cell.lst (rs.map .int)])[μ.length]? = some (.lst (rs.map .int)) := by rw [← hl3]; exact one0
  have tk : List.take μ.length (μ3 ++ [Cell.lst (rs.map .int)]) = μ3 := by rw [← hl3]; exact List.take_left
  refine ⟨rs, μ3, ?_, hM3, by omega, by omega, k2⟩
  simp only [F__law_rises, rises_body, cV_, cK_, cBin_, cCall_, cCons_, cNil_, cH_, cD_, cA_, cT_, cIf_, cAndT_, cOrT_, cNotT_, cAndV_, cOrV_, cNotV_, cChain_, cSl_, cPart_, cNoPart_, cMt_, cIsi_, cNeg_, cFn_, sNil_, sCons_, sIf_, sSet_, sPar_, sExpr_, sRet_, sRetN_, sRaise_, sBrk_, sCnt_, sStore_, fnOf_, iAny_, iR1_, iR2_, iEn_, gN_, gT_, gsN_, gsC_, stepS_, cYes_, lcF_, bT, iP, isTy, tyName, opTup, opLst, opAdd, opII, cDivB, opMul, opOrd, opEq, kD_nn, kD_ii, kD_bb, kD_ss, kD_ni, kD_nb, kD_ns, kD_in, kD_bn, kD_sn, kD_is, kD_si, kD_bs, kD_sb, kD_tuple1, kD_tuple2, kD_list1, kD_list2, kD_ib, kD_bi, opIsN, opIx, opSl, one, fLen, fInt, fAbs, fTup, fList, see, hold, toD, adopt, Rs.bind, Rs.thenS, opStore, expo, itmOf, wipeR, mAppend, mExtend, sAsg_, List.mapM_cons, List.mapM_nil, Option.bind_eq_bind, Option.bind_some, Option.pure_def, List.append_assoc, sz0, sy0, sz1, sy1, sz2, sy2, sz3, sy3, sz4, sy4, sz5, sy5, sz6, sy6, sz7, sy7, sz8, sy8, sz9, sy9, sz10, sy10, sz11, sy11, sz12, sy12, sz13, sy13, sz14, sy14, sz15, sy15, sz16, sy16, sz17, sy17, sz18, sy18, sz19, sy19, sz20, sy20, sz21, sy21, sz22, sy22, sz23, sy23, sz24, sy24, sz25, sy25, sz26, sy26, sz27, sy27, sz28, sy28, sz29, sy29, sz30, sy30, sz31, sy31, sz32, sy32, sz33, sy33, sz34, sy34, sz35, sy35, sz36, sy36, sz37, sy37, sz38, sy38, sz39, sy39, sz40, sy40, sPar3_, iZp_, cIsE_, zipOf, isL, opRepT, opIsB, fMax2, fMin2, mCountB, mIndexB, bools0, bools1, List.getElem?_cons_zero, List.getElem?_cons_succ, List.map_cons, List.map_nil, List.length_cons, List.length_nil, List.cons_append, List.nil_append, List.replicate_succ, List.replicate_zero, List.set_cons_zero, List.set_cons_succ, Nat.zero_add, Nat.reduceAdd, Nat.reduceSub, ↓reduceIte, reduceCtorEq, String.reduceBEq, kb_NoneType_int, kb_NoneType_bool, kb_NoneType_str, kb_NoneType_tuple, kb_NoneType_list, kb_NoneType_dict, kb_bool_int, kb_bool_bool, kb_bool_str, kb_bool_tuple, kb_bool_list, kb_bool_dict, kb_int_int, kb_int_bool, kb_int_str, kb_int_tuple, kb_int_list, kb_int_dict, kb_str_int, kb_str_bool, kb_str_str, kb_str_tuple, kb_str_list, kb_str_dict, kb_list_int, kb_list_bool, kb_list_str, kb_list_tuple, kb_list_list, kb_list_dict, kb_tuple_int, kb_tuple_bool, kb_tuple_str, kb_tuple_tuple, kb_tuple_list, kb_tuple_dict, kb_dict_int, kb_dict_bool, kb_dict_str, kb_dict_tuple, kb_dict_list, kb_dict_dict, String.reduceEq, Int.reduceLT, Int.reduceLE, Int.reduceNeg, Int.reducePow, Nat.reducePow, Int.reduceToNat, Nat.reduceLT, Nat.reduceLeDiff, decide_true, decide_false, and_self, and_true, true_and, or_true, true_or, or_false, false_or, Bool.not_true, Bool.not_false, Bool.true_eq_false, Bool.false_eq_true, Option.map_some, Option.map_none, hfor, u1, tk]
/-! ### what is no kit -/
theorem kit_size {x : D} (hx : noDict x = true) (h : sizedD 4 4 x = false) (μ : Mem) : F_is_kit [.d x] μ = .ok (.d (.bool false)) μ := by
  have e := sized_ok x 4 4 hx
  simp only [F_is_kit, C_is_kit, cV_, cK_, cBin_, cCall_, cCons_, cNil_, cH_, cD_, cA_, cT_, cIf_, cAndT_, cOrT_, cNotT_, cAndV_, cOrV_, cNotV_, cChain_, cSl_, cPart_, cNoPart_, cMt_, cIsi_, cNeg_, cFn_, sNil_, sCons_, sIf_, sSet_, sPar_, sExpr_, sRet_, sRetN_, sRaise_, sBrk_, sCnt_, sStore_, fnOf_, iAny_, iR1_, iR2_, iEn_, gN_, gT_, gsN_, gsC_, stepS_, cYes_, lcF_, bT, iP, isTy, tyName, opTup, opLst, opAdd, opII, cDivB, opMul, opOrd, opEq, kD_nn, kD_ii, kD_bb, kD_ss, kD_ni, kD_nb, kD_ns, kD_in, kD_bn, kD_sn, kD_is, kD_si, kD_bs, kD_sb, kD_tuple1, kD_tuple2, kD_list1, kD_list2, kD_ib, kD_bi, opIsN, opIx, opSl, one, fLen, fInt, fAbs, fTup, fList, see, hold, toD, adopt, Rs.bind, Rs.thenS, opStore, expo, itmOf, wipeR, mAppend, mExtend, sAsg_, List.mapM_cons, List.mapM_nil, Option.bind_eq_bind, Option.bind_some, Option.pure_def, List.append_assoc, sz0, sy0, sz1, sy1, sz2, sy2, sz3, sy3, sz4, sy4, sz5, sy5, sz6, sy6, sz7, sy7, sz8, sy8, sz9, sy9, sz10, sy10, sz11, sy11, sz12, sy12, sz13, sy13, sz14, sy14, sz15, sy15, sz16, sy16, sz17, sy17, sz18, sy18, sz19, sy19, sz20, sy20, sz21, sy21, sz22, sy22, sz23, sy23, sz24, sy24, sz25, sy25, sz26, sy26, sz27, sy27, sz28, sy28, sz29, sy29, sz30, sy30, sz31, sy31, sz32, sy32, sz33, sy33, sz34, sy34, sz35, sy35, sz36, sy36, sz37, sy37, sz38, sy38, sz39, sy39, sz40, sy40, sPar3_, iZp_, cIsE_, zipOf, isL, opRepT, opIsB, fMax2, fMin2, mCountB, mIndexB, bools0, bools1, List.getElem?_cons_zero, List.getElem?_cons_succ, List.map_cons, List.map_nil, List.length_cons, List.length_nil, List.cons_append, List.nil_append, List.replicate_succ, List.replicate_zero, List.set_cons_zero, List.set_cons_succ, Nat.zero_add, Nat.reduceAdd, Nat.reduceSub, ↓reduceIte, reduceCtorEq, String.reduceBEq, kb_NoneType_int, kb_NoneType_bool, kb_NoneType_str, kb_NoneType_tuple, kb_NoneType_list, kb_NoneType_dict, kb_bool_int, kb_bool_bool, kb_bool_str, kb_bool_tuple, kb_bool_list, kb_bool_dict, kb_int_int, kb_int_bool, kb_int_str, kb_int_tuple, kb_int_list, kb_int_dict, kb_str_int, kb_str_bool, kb_str_str, kb_str_tuple, kb_str_list, kb_str_dict, kb_list_int, kb_list_bool, kb_list_str, kb_list_tuple, kb_list_list, kb_list_dict, kb_tuple_int, kb_tuple_bool, kb_tuple_str, kb_tuple_tuple, kb_tuple_list, kb_tuple_dict, kb_dict_int, kb_dict_bool, kb_dict_str, kb_dict_tuple, kb_dict_list, kb_dict_dict, String.reduceEq, Int.reduceLT, Int.reduceLE, Int.reduceNeg, Int.reducePow, Nat.reducePow, Int.reduceToNat, Nat.reduceLT, Nat.reduceLeDiff, decide_true, decide_false, and_self, and_true, true_and, or_true, true_or, or_false, false_or, Bool.not_true, Bool.not_false, Bool.true_eq_false, Bool.false_eq_true, Option.map_some, Option.map_none, e, h, List.take_length]
theorem bad_kit_ok {μ : Mem} (hM : HM μ) (ls gs : List Int) (a b : Int) : ∃ (x : D) (μ' : Mem), F__law_bad_kit [.c 0, .d (kitD ls gs a b)] μ = .ok (.d x) μ' ∧ HM μ' ∧ ∀ μ, F_is_kit [.d x] μ = .ok (.d (.bool false)) μ := by
  obtain ⟨x, μ', e, hM', hl, hx⟩ := any_hm (xs := [.none, .tuple [.tuple (ls.map .int), .tuple (gs.map .int), .int a], .list [.tuple (ls.map .int), .tuple (gs.map .int), .int a, .int b], kitD [1, 2] [3, 2] 1 1, kitD [0, 2, 1] [3, 2, 1] 1 1, kitD [0, 1] [1, 2] 1 1, kitD [0, 1] [2, 1] 1 0, kitD [0] [1] 1 1, kitD [0, 1] [1] 1 1, .int 0]) hM (by simp) (by simp) []
  simp only [List.append_nil] at e
  refine ⟨x, μ', ?_, hM', fun μ => ?_⟩
  · have hc : Em.cutD [PyData.tuple (ls.map .int), .tuple (gs.map .int), .int a, .int b] none (some 3) = [PyData.tuple (ls.map .int), .tuple (gs.map .int), .int a] := cutD_take _ 3
    have s64 : 6 + 4 ≤ sizeLine := by decide
    unfold kitD at e
    simp only [List.map_cons, List.map_nil] at e
    simp only [F__law_bad_kit, C__law_bad_kit, kitD, cV_, cK_, cBin_, cCall_, cCons_, cNil_, cH_, cD_, cA_, cT_, cIf_, cAndT_, cOrT_, cNotT_, cAndV_, cOrV_, cNotV_, cChain_, cSl_, cPart_, cNoPart_, cMt_, cIsi_, cNeg_, cFn_, sNil_, sCons_, sIf_, sSet_, sPar_, sExpr_, sRet_, sRetN_, sRaise_, sBrk_, sCnt_, sStore_, fnOf_, iAny_, iR1_, iR2_, iEn_, gN_, gT_, gsN_, gsC_, stepS_, cYes_, lcF_, bT, iP, isTy, tyName, opTup, opLst, opAdd, opII, cDivB, opMul, opOrd, opEq, kD_nn, kD_ii, kD_bb, kD_ss, kD_ni, kD_nb, kD_ns, kD_in, kD_bn, kD_sn, kD_is, kD_si, kD_bs, kD_sb, kD_tuple1, kD_tuple2, kD_list1, kD_list2, kD_ib, kD_bi, opIsN, opIx, opSl, one, fLen, fInt, fAbs, fTup, fList, see, hold, toD, adopt, Rs.bind, Rs.thenS, opStore, expo, itmOf, wipeR, mAppend, mExtend, sAsg_, List.mapM_cons, List.mapM_nil, Option.bind_eq_bind, Option.bind_some, Option.pure_def, List.append_assoc, sz0, sy0, sz1, sy1, sz2, sy2, sz3, sy3, sz4, sy4, sz5, sy5, sz6, sy6, sz7, sy7, sz8, sy8, sz9, sy9, sz10, sy10, sz11, sy11, sz12, sy12, sz13, sy13, sz14, sy14, sz15, sy15, sz16, sy16, sz17, sy17, sz18, sy18, sz19, sy19, sz20, sy20, sz21, sy21, sz22, sy22, sz23, sy23, sz24, sy24, sz25, sy25, sz26, sy26, sz27, sy27, sz28, sy28, sz29, sy29, sz30, sy30, sz31, sy31, sz32, sy32, sz33, sy33, sz34, sy34, sz35, sy35, sz36, sy36, sz37, sy37, sz38, sy38, sz39, sy39, sz40, sy40, sPar3_, iZp_, cIsE_, zipOf, isL, opRepT, opIsB, fMax2, fMin2, mCountB, mIndexB, bools0, bools1, List.getElem?_cons_zero, List.getElem?_cons_succ, List.map_cons, List.map_nil, List.length_cons, List.length_nil, List.cons_append, List.nil_append, List.replicate_succ, List.replicate_zero, List.set_cons_zero, List.set_cons_succ, Nat.zero_add, Nat.reduceAdd, Nat.reduceSub, ↓reduceIte, reduceCtorEq, String.reduceBEq, kb_NoneType_int, kb_NoneType_bool, kb_NoneType_str, kb_NoneType_tuple, kb_NoneType_list, kb_NoneType_dict, kb_bool_int, kb_bool_bool, kb_bool_str, kb_bool_tuple, kb_bool_list, kb_bool_dict, kb_int_int, kb_int_bool, kb_int_str, kb_int_tuple, kb_int_list, kb_int_dict, kb_str_int, kb_str_bool, kb_str_str, kb_str_tuple, kb_str_list, kb_str_dict, kb_list_int, kb_list_bool, kb_list_str, kb_list_tuple, kb_list_list, kb_list_dict, kb_tuple_int, kb_tuple_bool, kb_tuple_str, kb_tuple_tuple, kb_tuple_list, kb_tuple_dict, kb_dict_int, kb_dict_bool, kb_dict_str, kb_dict_tuple, kb_dict_list, kb_dict_dict, String.reduceEq, Int.reduceLT, Int.reduceLE, Int.reduceNeg, Int.reducePow, Nat.reducePow, Int.reduceToNat, Nat.reduceLT, Nat.reduceLeDiff, decide_true, decide_false, and_self, and_true, true_and, or_true, true_or, or_false, false_or, Bool.not_true, Bool.not_false, Bool.true_eq_false, Bool.false_eq_true, Option.map_some, Option.map_none, hc, s64, e, take_all]
    have hl' : List.take μ.length μ' = μ' := List.take_of_length_le (by omega)
    rw [hl']
  · simp only [List.mem_cons, List.not_mem_nil, or_false] at hx
    rcases hx with rfl | rfl | rfl | rfl | rfl | rfl | rfl | rfl | rfl | rfl
    · exact kit_size rfl rfl μ
    · exact kit_size rfl rfl μ
    · exact kit_size rfl rfl μ
    · rw [is_kit_ok _ _ _ _ (by decide) (by decide)]; rfl
    · rw [is_kit_ok _ _ _ _ (by decide) (by decide)]; rfl
    · rw [is_kit_ok _ _ _ _ (by decide) (by decide)]; rfl
    · rw [is_kit_ok _ _ _ _ (by decide) (by decide)]; rfl
    · rw [is_kit_ok _ _ _ _ (by decide) (by decide)]; rfl
    · rw [is_kit_ok _ _ _ _ (by decide) (by decide)]; rfl
    · exact kit_size rfl rfl μ
end L28
set_option maxRecDepth 100000
set_option maxHeartbeats 2000000
namespace L28
open PySem PySem.Spec PyProof.Rows L2 Em
theorem any0 {μ : Mem} {xs : List D} (h : HM μ) (h0 : 0 < xs.length) (h1 : xs.length < 1000) : ∃ (d : D) (μ' : Mem), F__law_any [.c 0, .d (.list xs)] μ = .ok (.d d) μ' ∧ HM μ' ∧ μ'.length = μ.length ∧ d ∈ xs := by
  obtain ⟨d, μ', e, hM, hl, hm⟩ := any_hm h h0 h1 []
  simp only [List.append_nil] at e
  exact ⟨d, μ', e, hM, hl, hm⟩
theorem draw0 {μ : Mem} {m : Int} (h : HM μ) (h0 : 0 < m) (h1 : m < 1073741824) : ∃ (r : Int) (μ' : Mem), F__law_draw [.c 0, .d (.int m)] μ = .ok (.d (.int r)) μ' ∧ HM μ' ∧ μ'.length = μ.length ∧ 0 ≤ r ∧ r < m := by
  obtain ⟨d, μ', e, hM, hl, hm⟩ := draw_hm h h0 h1 []
  simp only [List.append_nil] at e
  exact ⟨d, μ', e, hM, hl, hm⟩
def tailR : SC := (sCons (sSet 9 (cA (cCall opLst (cCons (cD (cLam P__law_said (cFn 6 F_stretch_told (cCons (cV 3) (cCons (cV 5) (cCons (cV 6) (cCons (cV 8) (cCons (cV 8) (cCons (cV 7) cNil))))))))) cNil))))
  (sCons (sExpr (cMt "list" mAppend (cV 9) (cCons (cD (cLam P__law_said (cFn 6 F_stretch_told (cCons (cV 1) (cCons (cV 5) (cCons (cV 6) (cCons (cV 8) (cCons (cV 8) (cCons (cV 7) cNil))))))))) cNil)))
  (sCons (sExpr (cMt "list" mAppend (cV 9) (cCons (cD (cLam P__law_said (cFn 6 F_stretch_told (cCons (cV 1) (cCons (cV 2) (cCons (cV 6) (cCons (cV 8) (cCons (cV 8) (cCons (cV 7) cNil))))))))) cNil)))
  (sCons (sExpr (cMt "list" mAppend (cV 9) (cCons (cD (cLam P__law_said (cFn 6 F_stretch_told (cCons (cV 1) (cCons (cV 2) (cCons (cK (.int 0)) (cCons (cV 8) (cCons (cK (.int 1)) (cCons (cV 7) cNil))))))))) cNil)))
  (sCons (sExpr (cMt "list" mAppend (cV 9) (cCons (cD (cLam P__law_said (cFn 6 F_stretch_told (cCons (cV 1) (cCons (cV 2) (cCons (cK (.int 0)) (cCons (cK (.int 0)) (cCons (cK (.int 0)) (cCons (cV 7) cNil))))))))) cNil)))
  (sCons (sExpr (cMt "list" mAppend (cV 9) (cCons (cD (cLam P__law_said (cFn 6 F_stretch_told (cCons (cV 1) (cCons (cV 2) (cCons (cK (.int 0)) (cCons (cK (.int 0)) (cCons (cK (.int 1)) (cCons (cV 7) cNil))))))))) cNil)))
  (sCons (sExpr (cMt "list" mAppend (cV 9) (cCons (cD (cLam P__law_said (cFn 3 F_can_burst (cCons (cV 1) (cCons (cV 2) (cCons (cV 6) cNil)))))) cNil)))
  (sCons (sExpr (cMt "list" mAppend (cV 9) (cCons (cD (cLam P__law_said (cFn 3 F_loss_of (cCons (cV 1) (cCons (cK (.int 0)) (cCons (cH (cFn 2 F__law_any (cCons (cV 0) (cCons (cH (cCall opLst (cCons (cK (.int 0)) (cCons (cK (.int 5)) (cCons (cK .none) (cCons (cK (.bool true)) cNil)))))) cNil)))) cNil)))))) cNil)))
  (sRet (cAndV (cBin (opEq false) (cV 9) (cH (cCall opLst (cCons (cK (.str "kit")) (cCons (cK (.str "rises")) (cCons (cK (.str "flow")) (cCons (cK (.str "spot")) (cCons (cK (.str "spot")) (cCons (cK (.str "due")) (cCons (cK (.str "flow")) (cCons (cK (.str "number")) cNil))))))))))) (cBin (opIsB false) (cH (cFn 1 F_is_kit (cCons (cV 3) cNil))) (cK (.bool false)))))))))))))
theorem refused_body : C__law_refused_right = (sCons (sAsg (gT (gsC (gN 3) (gsC (gN 4) gsN))) (cCall opTup (cCons (cD (cFn 2 F__law_bad_kit (cCons (cV 0) (cCons (cV 1) cNil)))) (cCons (cD (cCall (one fLen) (cCons (cH (cBin opIx (cV 1) (cK (.int 0)))) cNil))) cNil))))
  (sCons (sSet 5 (cH (cFn 2 F__law_any (cCons (cV 0) (cCons (cH (cCall opLst (cCons (cK .none) (cCons (cD (cCall opTup cNil)) (cCons (cD (cCall opTup (cCons (cK (.int 101)) cNil))) (cCons (cD (cBin opRepT (cH (cCall opTup (cCons (cK (.int 0)) cNil))) (cK (.int 21)))) (cCons (cD (cCall (one fList) (cCons (cV 2) cNil))) (cCons (cD (cCall opTup (cCons (cK (.bool true)) cNil))) (cCons (cK (.int 0)) cNil))))))))) cNil)))))
  (sCons (sAsg (gT (gsC (gN 6) (gsC (gN 7) gsN))) (cCall opTup (cCons (cD (cFn 2 F__law_any (cCons (cV 0) (cCons (cH (cCall opLst (cCons (cV 4) (cCons (cD (cNeg (cK (.int 1)))) (cCons (cK .none) (cCons (cK (.bool true)) (cCons (cK (.str "1")) cNil))))))) cNil)))) (cCons (cD (cFn 2 F__law_any (cCons (cV 0) (cCons (cH (cCall opLst (cCons (cD (cNeg (cK (.int 1)))) (cCons (cK (.int 1001)) (cCons (cK .none) (cCons (cK (.bool true)) cNil)))))) cNil)))) cNil))))
  (sCons (sSet 8 (cH (cFn 2 F__law_any (cCons (cV 0) (cCons (cH (cCall opLst (cCons (cD (cNeg (cK (.int 1)))) (cCons (cD (cBin opAdd (cH (cCall (one fLen) (cCons (cV 2) cNil))) (cK (.int 1)))) (cCons (cK .none) (cCons (cK (.bool true)) cNil)))))) cNil)))))
  tailR))) ) := rfl
theorem within_yes {lo hi i : Int} (h : lo ≤ i ∧ i ≤ hi) : withinD lo hi (.int i) = true := decide_eq_true h
theorem within_no {lo hi i : Int} (h : ¬ (lo ≤ i ∧ i ≤ hi)) : withinD lo hi (.int i) = false := decide_eq_false h
theorem HM.take {μ : Mem} (h : HM μ) {k : Nat} (hk : 0 < k) : HM (μ.take k) := by
  obtain ⟨ds, h1, h2⟩ := h
  exact ⟨ds, by rw [List.getElem?_take_of_lt hk]; exact h1, h2⟩
theorem HM.pos {μ : Mem} (h : HM μ) : 0 < μ.length := by obtain ⟨ds, h1, _⟩ := h; exact get_lt h1
def noRise (rs : List Int) (x : D) : Prop := nd2 x ∧ riseB x = false
theorem refused_ok {μ : Mem} (hM : HM μ) {ls gs rs : List Int} {a b : Int} (hk : kitB ls gs a b = true) (l1 : ls.length ≤ 6) (l2 : gs.length ≤ 6) (l0 : 2 ≤ ls.length) (r1 : 1 ≤ rs.length) (r5 : rs.length ≤ 5) (hr : ∀ x ∈ rs, -10 ≤ x ∧ x ≤ 10) : ∃ μ', F__law_refused_right [.c 0, .d (kitD ls gs a b), .d (.tuple (rs.map .int))] μ = .ok (.d (.bool true)) μ' ∧ HM μ' := by
  have hml : (rs.map PyData.int).length = rs.length := List.length_map _
  have hkit : ∀ μ, F_is_kit [.d (kitD ls gs a b)] μ = .ok (.d (.bool true)) μ := fun μ => by rw [is_kit_ok _ _ _ _ (by omega) (by omega), hk]
  have hnr : nd2 (.tuple (rs.map .int)) := ⟨rfl, fun xs e => by cases e; exact ⟨by simp; omega, fun y hy => by obtain ⟨i, _, rfl⟩ := List.mem_map.mp hy; rfl⟩⟩
  have hrb : riseB (.tuple (rs.map .int)) = true := by
    unfold riseB sizedD
    simp only [Bool.and_eq_true, decide_eq_true_eq, List.length_map, List.all_map, List.all_eq_true]
    exact ⟨by omega, fun x hx => by have := hr x hx; exact decide_eq_true (by omega)⟩
  obtain ⟨bad, μ1, e1, hM1, hbad⟩ := bad_kit_ok hM ls gs a b
  obtain ⟨nn, μ2, e2, hM2, hl2, hx2⟩ := any0 (xs := [.none, .tuple [], .tuple [.int 101], .tuple (List.replicate 21 [PyData.int 0]).flatten, .list (rs.map .int), .tuple [.bool true], .int 0]) hM1 (by simp) (by simp)
  have hnone : nd2 nn ∧ riseB nn = false := by
    simp only [List.mem_cons, List.not_mem_nil, or_false] at hx2
    rcases hx2 with rfl | rfl | rfl | rfl | rfl | rfl | rfl
    · exact ⟨⟨rfl, fun xs e => by cases e⟩, rfl⟩
    · exact ⟨⟨rfl, fun xs e => by cases e; exact ⟨by simp, fun y hy => by simp at hy⟩⟩, rfl⟩
    · exact ⟨⟨rfl, fun xs e => by cases e; exact ⟨by simp, fun y hy => by simp at hy; subst hy; rfl⟩⟩, rfl⟩
    · exact ⟨⟨rfl, fun xs e => by cases e; exact ⟨by simp, fun y hy => by simp at hy; subst hy; rfl⟩⟩, rfl⟩
    · exact ⟨⟨rfl, fun xs e => by cases e⟩, rfl⟩
    · exact ⟨⟨rfl, fun xs e => by cases e; exact ⟨by simp, fun y hy => by simp at hy; subst hy; rfl⟩⟩, rfl⟩
    · exact ⟨⟨rfl, fun xs e => by cases e⟩, rfl⟩
  obtain ⟨flow, μ3, e3, hM3, hl3, hx3⟩ := any0 (xs := [.int ((ls.length : Nat) : Int), .int (-1), .none, .bool true, .str "1"]) hM2 (by simp) (by simp)
  have hflow : noDict flow = true ∧ withinD 0 ((ls.length : Nat) - 1) flow = false := by
    simp only [List.mem_cons, List.not_mem_nil, or_false] at hx3
    rcases hx3 with rfl | rfl | rfl | rfl | rfl
    · exact ⟨rfl, within_no (by omega)⟩
    · exact ⟨rfl, within_no (by omega)⟩
    · exact ⟨rfl, rfl⟩
    · exact ⟨rfl, rfl⟩
    · exact ⟨rfl, rfl⟩
  obtain ⟨due, μ4, e4, hM4, hl4, hx4⟩ := any0 (xs := [.int (-1), .int 1001, .none, .bool true]) hM3 (by simp) (by simp)
  have hdue : noDict due = true ∧ withinD 0 1000 due = false := by
    simp only [List.mem_cons, List.not_mem_nil, or_false] at hx4
    rcases hx4 with rfl | rfl | rfl | rfl <;> exact ⟨rfl, rfl⟩
  obtain ⟨spot, μ5, e5, hM5, hl5, hx5⟩ := any0 (xs := [.int (-1), .int (((rs.map PyData.int).length : Nat) + 1 : Int), .none, .bool true]) hM4 (by simp) (by simp)
  have hspot : noDict spot = true ∧ withinD 0 (((rs.map PyData.int).length : Nat) - 1) spot = false := by
    simp only [List.mem_cons, List.not_mem_nil, or_false] at hx5
    rcases hx5 with rfl | rfl | rfl | rfl
    · exact ⟨rfl, within_no (by omega)⟩
    · exact ⟨rfl, within_no (by omega)⟩
    · exact ⟨rfl, rfl⟩
    · exact ⟨rfl, rfl⟩
  obtain ⟨num, μ6, e6, hM6, hl6, hx6⟩ := any_hm (xs := [.int 0, .int 5, .none, .bool true]) hM5 (by simp) (by simp) [.lst [.str "kit", .str "rises", .str "flow", .str "spot", .str "spot", .str "due", .str "flow"]]
  have hnum : noDict num = true ∧ withinD 1 4 num = false := by
    simp only [List.mem_cons, List.not_mem_nil, or_false] at hx6
    rcases hx6 with rfl | rfl | rfl | rfl <;> exact ⟨rfl, rfl⟩
  have L0 : ∀ μ, F_check_line_of [.d (kitD ls gs a b), .d (.tuple (rs.map .int)), .d (.int 0)] μ = .ok (.d .none) μ := fun μ => by
    rw [line_flow hkit hnr hrb rfl, if_pos (within_yes (by omega))]
  have LF : ∀ μ, F_check_line_of [.d (kitD ls gs a b), .d (.tuple (rs.map .int)), .d flow] μ = .ex ⟨"NoFlow", .none⟩ μ := fun μ => by
    rw [line_flow hkit hnr hrb hflow.1, if_neg (by rw [hflow.2]; exact Bool.false_ne_true)]
  have w0 : withinD 0 (((rs.map PyData.int).length : Nat) - 1) (.int 0) = true := within_yes (by omega)
  have c1 : ∀ μ, P__law_said (fun μ' => F_stretch_told [.d bad, .d nn, .d flow, .d spot, .d spot, .d due] μ') μ = .ok (.d (.str "kit")) μ := fun μ => said_kit (told_line (line_kit hbad) μ) rfl
  have c2 : ∀ μ, P__law_said (fun μ' => F_stretch_told [.d (kitD ls gs a b), .d nn, .d flow, .d spot, .d spot, .d due] μ') μ = .ok (.d (.str "rises")) μ := fun μ => said_rises (told_line (line_rises hkit hnone.1 hnone.2) μ) rfl
  have c3 : ∀ μ, P__law_said (fun μ' => F_stretch_told [.d (kitD ls gs a b), .d (.tuple (rs.map .int)), .d flow, .d spot, .d spot, .d due] μ') μ = .ok (.d (.str "flow")) μ := fun μ => said_flow (told_line LF μ) rfl
  have c4 : ∀ μ, P__law_said (fun μ' => F_stretch_told [.d (kitD ls gs a b), .d (.tuple (rs.map .int)), .d (.int 0), .d spot, .d (.int 1), .d due] μ') μ = .ok (.d (.str "spot")) μ := fun μ => said_spot (told_spot1 L0 hspot.1 hspot.2 μ) rfl
  have c5 : ∀ μ, P__law_said (fun μ' => F_stretch_told [.d (kitD ls gs a b), .d (.tuple (rs.map .int)), .d (.int 0), .d (.int 0), .d (.int 0), .d due] μ') μ = .ok (.d (.str "spot")) μ := fun μ => said_spot (told_spot2 L0 w0 rfl (within_no (by omega)) μ) rfl
  have c6 : ∀ μ, P__law_said (fun μ' => F_stretch_told [.d (kitD ls gs a b), .d (.tuple (rs.map .int)), .d (.int 0), .d (.int 0), .d (.int 1), .d due] μ') μ = .ok (.d (.str "due")) μ := fun μ => said_due (told_due L0 w0 (within_yes (by omega)) hdue.1 hdue.2 μ) rfl
  have c7 : ∀ μ, P__law_said (fun μ' => F_can_burst [.d (kitD ls gs a b), .d (.tuple (rs.map .int)), .d flow] μ') μ = .ok (.d (.str "flow")) μ := fun μ => said_flow (by simp only [F_can_burst, C_can_burst, cV_, cK_, cBin_, cCall_, cCons_, cNil_, cH_, cD_, cA_, cT_, cIf_, cAndT_, cOrT_, cNotT_, cAndV_, cOrV_, cNotV_, cChain_, cSl_, cPart_, cNoPart_, cMt_, cIsi_, cNeg_, cFn_, sNil_, sCons_, sIf_, sSet_, sPar_, sExpr_, sRet_, sRetN_, sRaise_, sBrk_, sCnt_, sStore_, fnOf_, iAny_, iR1_, iR2_, iEn_, gN_, gT_, gsN_, gsC_, stepS_, cYes_, lcF_, bT, iP, isTy, tyName, opTup, opLst, opAdd, opII, cDivB, opMul, opOrd, opEq, kD_nn, kD_ii, kD_bb, kD_ss, kD_ni, kD_nb, kD_ns, kD_in, kD_bn, kD_sn, kD_is, kD_si, kD_bs, kD_sb, kD_tuple1, kD_tuple2, kD_list1, kD_list2, kD_ib, kD_bi, opIsN, opIx, opSl, one, fLen, fInt, fAbs, fTup, fList, see, hold, toD, adopt, Rs.bind, Rs.thenS, opStore, expo, itmOf, wipeR, mAppend, mExtend, sAsg_, List.mapM_cons, List.mapM_nil, Option.bind_eq_bind, Option.bind_some, Option.pure_def, List.append_assoc, sz0, sy0, sz1, sy1, sz2, sy2, sz3, sy3, sz4, sy4, sz5, sy5, sz6, sy6, sz7, sy7, sz8, sy8, sz9, sy9, sz10, sy10, sz11, sy11, sz12, sy12, sz13, sy13, sz14, sy14, sz15, sy15, sz16, sy16, sz17, sy17, sz18, sy18, sz19, sy19, sz20, sy20, sz21, sy21, sz22, sy22, sz23, sy23, sz24, sy24, sz25, sy25, sz26, sy26, sz27, sy27, sz28, sy28, sz29, sy29, sz30, sy30, sz31, sy31, sz32, sy32, sz33, sy33, sz34, sy34, sz35, sy35, sz36, sy36, sz37, sy37, sz38, sy38, sz39, sy39, sz40, sy40, sPar3_, iZp_, cIsE_, zipOf, isL, opRepT, opIsB, fMax2, fMin2, mCountB, mIndexB, bools0, bools1, List.getElem?_cons_zero, List.getElem?_cons_succ, List.map_cons, List.map_nil, List.length_cons, List.length_nil, List.cons_append, List.nil_append, List.replicate_succ, List.replicate_zero, List.set_cons_zero, List.set_cons_succ, Nat.zero_add, Nat.reduceAdd, Nat.reduceSub, ↓reduceIte, reduceCtorEq, String.reduceBEq, kb_NoneType_int, kb_NoneType_bool, kb_NoneType_str, kb_NoneType_tuple, kb_NoneType_list, kb_NoneType_dict, kb_bool_int, kb_bool_bool, kb_bool_str, kb_bool_tuple, kb_bool_list, kb_bool_dict, kb_int_int, kb_int_bool, kb_int_str, kb_int_tuple, kb_int_list, kb_int_dict, kb_str_int, kb_str_bool, kb_str_str, kb_str_tuple, kb_str_list, kb_str_dict, kb_list_int, kb_list_bool, kb_list_str, kb_list_tuple, kb_list_list, kb_list_dict, kb_tuple_int, kb_tuple_bool, kb_tuple_str, kb_tuple_tuple, kb_tuple_list, kb_tuple_dict, kb_dict_int, kb_dict_bool, kb_dict_str, kb_dict_tuple, kb_dict_list, kb_dict_dict, String.reduceEq, Int.reduceLT, Int.reduceLE, Int.reduceNeg, Int.reducePow, Nat.reducePow, Int.reduceToNat, Nat.reduceLT, Nat.reduceLeDiff, decide_true, decide_false, and_self, and_true, true_and, or_true, true_or, or_false, false_or, Bool.not_true, Bool.not_false, Bool.true_eq_false, Bool.false_eq_true, Option.map_some, Option.map_none, LF, List.take_length]) rfl
  have c8 : P__law_said (fun μ' => cFn 3 F_loss_of (cCons (cV 1) (cCons (cK (.int 0)) (cCons (cH (cFn 2 F__law_any (cCons (cV 0) (cCons (cH (cCall opLst (cCons (cK (.int 0)) (cCons (cK (.int 5)) (cCons (cK .none) (cCons (cK (.bool true)) cNil)))))) cNil)))) cNil))) [some (.c 0), some (.d (kitD ls gs a b)), some (.d (.tuple (rs.map .int))), some (.d bad), some (.d (.int ((ls.length : Nat) : Int))), some (.d nn), some (.d flow), some (.d due), some (.d spot), some (.c μ5.length)] μ') (μ5 ++ [.lst [.str "kit", .str "rises", .str "flow", .str "spot", .str "spot", .str "due", .str "flow"]]) = .ok (.d (.str "number")) (μ6 ++ [.lst [.str "kit", .str "rises", .str "flow", .str "spot", .str "spot", .str "due", .str "flow"]]) := by
    refine said_number ?_ (by simp [hl6])
    simp only [cV_, cK_, cBin_, cCall_, cCons_, cNil_, cH_, cD_, cA_, cT_, cIf_, cAndT_, cOrT_, cNotT_, cAndV_, cOrV_, cNotV_, cChain_, cSl_, cPart_, cNoPart_, cMt_, cIsi_, cNeg_, cFn_, sNil_, sCons_, sIf_, sSet_, sPar_, sExpr_, sRet_, sRetN_, sRaise_, sBrk_, sCnt_, sStore_, fnOf_, iAny_, iR1_, iR2_, iEn_, gN_, gT_, gsN_, gsC_, stepS_, cYes_, lcF_, bT, iP, isTy, tyName, opTup, opLst, opAdd, opII, cDivB, opMul, opOrd, opEq, kD_nn, kD_ii, kD_bb, kD_ss, kD_ni, kD_nb, kD_ns, kD_in, kD_bn, kD_sn, kD_is, kD_si, kD_bs, kD_sb, kD_tuple1, kD_tuple2, kD_list1, kD_list2, kD_ib, kD_bi, opIsN, opIx, opSl, one, fLen, fInt, fAbs, fTup, fList, see, hold, toD, adopt, Rs.bind, Rs.thenS, opStore, expo, itmOf, wipeR, mAppend, mExtend, sAsg_, List.mapM_cons, List.mapM_nil, Option.bind_eq_bind, Option.bind_some, Option.pure_def, List.append_assoc, sz0, sy0, sz1, sy1, sz2, sy2, sz3, sy3, sz4, sy4, sz5, sy5, sz6, sy6, sz7, sy7, sz8, sy8, sz9, sy9, sz10, sy10, sz11, sy11, sz12, sy12, sz13, sy13, sz14, sy14, sz15, sy15, sz16, sy16, sz17, sy17, sz18, sy18, sz19, sy19, sz20, sy20, sz21, sy21, sz22, sy22, sz23, sy23, sz24, sy24, sz25, sy25, sz26, sy26, sz27, sy27, sz28, sy28, sz29, sy29, sz30, sy30, sz31, sy31, sz32, sy32, sz33, sy33, sz34, sy34, sz35, sy35, sz36, sy36, sz37, sy37, sz38, sy38, sz39, sy39, sz40, sy40, sPar3_, iZp_, cIsE_, zipOf, isL, opRepT, opIsB, fMax2, fMin2, mCountB, mIndexB, bools0, bools1, List.getElem?_cons_zero, List.getElem?_cons_succ, List.map_cons, List.map_nil, List.length_cons, List.length_nil, List.cons_append, List.nil_append, List.replicate_succ, List.replicate_zero, List.set_cons_zero, List.set_cons_succ, Nat.zero_add, Nat.reduceAdd, Nat.reduceSub, ↓reduceIte, reduceCtorEq, String.reduceBEq, kb_NoneType_int, kb_NoneType_bool, kb_NoneType_str, kb_NoneType_tuple, kb_NoneType_list, kb_NoneType_dict, kb_bool_int, kb_bool_bool, kb_bool_str, kb_bool_tuple, kb_bool_list, kb_bool_dict, kb_int_int, kb_int_bool, kb_int_str, kb_int_tuple, kb_int_list, kb_int_dict, kb_str_int, kb_str_bool, kb_str_str, kb_str_tuple, kb_str_list, kb_str_dict, kb_list_int, kb_list_bool, kb_list_str, kb_list_tuple, kb_list_list, kb_list_dict, kb_tuple_int, kb_tuple_bool, kb_tuple_str, kb_tuple_tuple, kb_tuple_list, kb_tuple_dict, kb_dict_int, kb_dict_bool, kb_dict_str, kb_dict_tuple, kb_dict_list, kb_dict_dict, String.reduceEq, Int.reduceLT, Int.reduceLE, Int.reduceNeg, Int.reducePow, Nat.reducePow, Int.reduceToNat, Nat.reduceLT, Nat.reduceLeDiff, decide_true, decide_false, and_self, and_true, true_and, or_true, true_or, or_false, false_or, Bool.not_true, Bool.not_false, Bool.true_eq_false, Bool.false_eq_true, Option.map_some, Option.map_none, e6, loss_bad hkit (by omega) hnum.1 hnum.2]
  have q1 : PyData.eqv (.list [.str "kit", .str "rises", .str "flow", .str "spot", .str "spot", .str "due", .str "flow", .str "number"]) (.list [.str "kit", .str "rises", .str "flow", .str "spot", .str "spot", .str "due", .str "flow", .str "number"]) = true ∧ SeqAt.shaped (.list [.str "kit", .str "rises", .str "flow", .str "spot", .str "spot", .str "due", .str "flow", .str "number"]) = true := by decide +kernel
  have u6 : (μ6 ++ [Cell.lst [.str "kit", .str "rises", .str "flow", .str "spot", .str "spot", .str "due", .str "flow"]])[μ5.length]? = some (.lst [.str "kit", .str "rises", .str "flow", .str "spot", .str "spot", .str "due", .str "flow"]) := by rw [← hl6]; exact one0
  have u6s : (μ6 ++ [Cell.lst [.str "kit", .str "rises", .str "flow", .str "spot", .str "spot", .str "due", .str "flow"]]).set μ5.length (.lst [.str "kit", .str "rises", .str "flow", .str "spot", .str "spot", .str "due", .str "flow", .str "number"]) = μ6 ++ [.lst [.str "kit", .str "rises", .str "flow", .str "spot", .str "spot", .str "due", .str "flow", .str "number"]] := by rw [← hl6]; exact one0s
  have u7 : (μ6 ++ [Cell.lst [.str "kit", .str "rises", .str "flow", .str "spot", .str "spot", .str "due", .str "flow", .str "number"]])[μ5.length]? = some (.lst [.str "kit", .str "rises", .str "flow", .str "spot", .str "spot", .str "due", .str "flow", .str "number"]) := by rw [← hl6]; exact one0
  have tailrun : tailR [some (.c 0), some (.d (kitD ls gs a b)), some (.d (.tuple (rs.map .int))), some (.d bad), some (.d (.int ((ls.length : Nat) : Int))), some (.d nn), some (.d flow), some (.d due), some (.d spot), none] μ5 = .rt (.d (.bool true)) (μ6 ++ [.lst [.str "kit", .str "rises", .str "flow", .str "spot", .str "spot", .str "due", .str "flow", .str "number"]]) := by
    simp only [cV_, cK_, cBin_, cCall_, cCons_, cNil_, cH_, cD_, cA_, cT_, cIf_, cAndT_, cOrT_, cNotT_, cAndV_, cOrV_, cNotV_, cChain_, cSl_, cPart_, cNoPart_, cMt_, cIsi_, cNeg_, cFn_, sNil_, sCons_, sIf_, sSet_, sPar_, sExpr_, sRet_, sRetN_, sRaise_, sBrk_, sCnt_, sStore_, fnOf_, iAny_, iR1_, iR2_, iEn_, gN_, gT_, gsN_, gsC_, stepS_, cYes_, lcF_, bT, iP, isTy, tyName, opTup, opLst, opAdd, opII, cDivB, opMul, opOrd, opEq, kD_nn, kD_ii, kD_bb, kD_ss, kD_ni, kD_nb, kD_ns, kD_in, kD_bn, kD_sn, kD_is, kD_si, kD_bs, kD_sb, kD_tuple1, kD_tuple2, kD_list1, kD_list2, kD_ib, kD_bi, opIsN, opIx, opSl, one, fLen, fInt, fAbs, fTup, fList, see, hold, toD, adopt, Rs.bind, Rs.thenS, opStore, expo, itmOf, wipeR, mAppend, mExtend, sAsg_, List.mapM_cons, List.mapM_nil, Option.bind_eq_bind, Option.bind_some, Option.pure_def, List.append_assoc, sz0, sy0, sz1, sy1, sz2, sy2, sz3, sy3, sz4, sy4, sz5, sy5, sz6, sy6, sz7, sy7, sz8, sy8, sz9, sy9, sz10, sy10, sz11, sy11, sz12, sy12, sz13, sy13, sz14, sy14, sz15, sy15, sz16, sy16, sz17, sy17, sz18, sy18, sz19, sy19, sz20, sy20, sz21, sy21, sz22, sy22, sz23, sy23, sz24, sy24, sz25, sy25, sz26, sy26, sz27, sy27, sz28, sy28, sz29, sy29, sz30, sy30, sz31, sy31, sz32, sy32, sz33, sy33, sz34, sy34, sz35, sy35, sz36, sy36, sz37, sy37, sz38, sy38, sz39, sy39, sz40, sy40, sPar3_, iZp_, cIsE_, zipOf, isL, opRepT, opIsB, fMax2, fMin2, mCountB, mIndexB, bools0, bools1, List.getElem?_cons_zero, List.getElem?_cons_succ, List.map_cons, List.map_nil, List.length_cons, List.length_nil, List.cons_append, List.nil_append, List.replicate_succ, List.replicate_zero, List.set_cons_zero, List.set_cons_succ, Nat.zero_add, Nat.reduceAdd, Nat.reduceSub, ↓reduceIte, reduceCtorEq, String.reduceBEq, kb_NoneType_int, kb_NoneType_bool, kb_NoneType_str, kb_NoneType_tuple, kb_NoneType_list, kb_NoneType_dict, kb_bool_int, kb_bool_bool, kb_bool_str, kb_bool_tuple, kb_bool_list, kb_bool_dict, kb_int_int, kb_int_bool, kb_int_str, kb_int_tuple, kb_int_list, kb_int_dict, kb_str_int, kb_str_bool, kb_str_str, kb_str_tuple, kb_str_list, kb_str_dict, kb_list_int, kb_list_bool, kb_list_str, kb_list_tuple, kb_list_list, kb_list_dict, kb_tuple_int, kb_tuple_bool, kb_tuple_str, kb_tuple_tuple, kb_tuple_list, kb_tuple_dict, kb_dict_int, kb_dict_bool, kb_dict_str, kb_dict_tuple, kb_dict_list, kb_dict_dict, String.reduceEq, Int.reduceLT, Int.reduceLE, Int.reduceNeg, Int.reducePow, Nat.reducePow, Int.reduceToNat, Nat.reduceLT, Nat.reduceLeDiff, decide_true, decide_false, and_self, and_true, true_and, or_true, true_or, or_false, false_or, Bool.not_true, Bool.not_false, Bool.true_eq_false, Bool.false_eq_true, Option.map_some, Option.map_none] at c8
    simp only [tailR, cV_, cK_, cBin_, cCall_, cCons_, cNil_, cH_, cD_, cA_, cT_, cIf_, cAndT_, cOrT_, cNotT_, cAndV_, cOrV_, cNotV_, cChain_, cSl_, cPart_, cNoPart_, cMt_, cIsi_, cNeg_, cFn_, sNil_, sCons_, sIf_, sSet_, sPar_, sExpr_, sRet_, sRetN_, sRaise_, sBrk_, sCnt_, sStore_, fnOf_, iAny_, iR1_, iR2_, iEn_, gN_, gT_, gsN_, gsC_, stepS_, cYes_, lcF_, bT, iP, isTy, tyName, opTup, opLst, opAdd, opII, cDivB, opMul, opOrd, opEq, kD_nn, kD_ii, kD_bb, kD_ss, kD_ni, kD_nb, kD_ns, kD_in, kD_bn, kD_sn, kD_is, kD_si, kD_bs, kD_sb, kD_tuple1, kD_tuple2, kD_list1, kD_list2, kD_ib, kD_bi, opIsN, opIx, opSl, one, fLen, fInt, fAbs, fTup, fList, see, hold, toD, adopt, Rs.bind, Rs.thenS, opStore, expo, itmOf, wipeR, mAppend, mExtend, sAsg_, List.mapM_cons, List.mapM_nil, Option.bind_eq_bind, Option.bind_some, Option.pure_def, List.append_assoc, sz0, sy0, sz1, sy1, sz2, sy2, sz3, sy3, sz4, sy4, sz5, sy5, sz6, sy6, sz7, sy7, sz8, sy8, sz9, sy9, sz10, sy10, sz11, sy11, sz12, sy12, sz13, sy13, sz14, sy14, sz15, sy15, sz16, sy16, sz17, sy17, sz18, sy18, sz19, sy19, sz20, sy20, sz21, sy21, sz22, sy22, sz23, sy23, sz24, sy24, sz25, sy25, sz26, sy26, sz27, sy27, sz28, sy28, sz29, sy29, sz30, sy30, sz31, sy31, sz32, sy32, sz33, sy33, sz34, sy34, sz35, sy35, sz36, sy36, sz37, sy37, sz38, sy38, sz39, sy39, sz40, sy40, sPar3_, iZp_, cIsE_, zipOf, isL, opRepT, opIsB, fMax2, fMin2, mCountB, mIndexB, bools0, bools1, List.getElem?_cons_zero, List.getElem?_cons_succ, List.map_cons, List.map_nil, List.length_cons, List.length_nil, List.cons_append, List.nil_append, List.replicate_succ, List.replicate_zero, List.set_cons_zero, List.set_cons_succ, Nat.zero_add, Nat.reduceAdd, Nat.reduceSub, ↓reduceIte, reduceCtorEq, String.reduceBEq, kb_NoneType_int, kb_NoneType_bool, kb_NoneType_str, kb_NoneType_tuple, kb_NoneType_list, kb_NoneType_dict, kb_bool_int, kb_bool_bool, kb_bool_str, kb_bool_tuple, kb_bool_list, kb_bool_dict, kb_int_int, kb_int_bool, kb_int_str, kb_int_tuple, kb_int_list, kb_int_dict, kb_str_int, kb_str_bool, kb_str_str, kb_str_tuple, kb_str_list, kb_str_dict, kb_list_int, kb_list_bool, kb_list_str, kb_list_tuple, kb_list_list, kb_list_dict, kb_tuple_int, kb_tuple_bool, kb_tuple_str, kb_tuple_tuple, kb_tuple_list, kb_tuple_dict, kb_dict_int, kb_dict_bool, kb_dict_str, kb_dict_tuple, kb_dict_list, kb_dict_dict, String.reduceEq, Int.reduceLT, Int.reduceLE, Int.reduceNeg, Int.reducePow, Nat.reducePow, Int.reduceToNat, Nat.reduceLT, Nat.reduceLeDiff, decide_true, decide_false, and_self, and_true, true_and, or_true, true_or, or_false, false_or, Bool.not_true, Bool.not_false, Bool.true_eq_false, Bool.false_eq_true, Option.map_some, Option.map_none, cLam_, c1, c2, c3, c4, c5, c6, c7, one0, one0s, c8, u6, u6s, u7, q1.1, q1.2, hbad, decide_true]
  have hx0 : L2.atI [PyData.tuple (ls.map .int), .tuple (gs.map .int), .int a, .int b] 0 = some (.tuple (ls.map .int)) := ix0 _ _
  have c21 : (([PyData.int 0] : List D) ≠ [] ∧ (2 : Int) ≤ 21 ∧ (21 : Int) ≤ 1000 ∧ ([PyData.int 0] : List D).length ≤ 1000) := ⟨by simp, by decide, by decide, by simp⟩
  refine ⟨_, ?_, (hM6.app [.lst [.str "kit", .str "rises", .str "flow", .str "spot", .str "spot", .str "due", .str "flow", .str "number"]]).take hM.pos⟩
  unfold kitD at e1 tailrun
  simp only [List.replicate_succ, List.replicate_zero] at e2
  rw [hml] at e5
  have hml2 : (((rs.map PyData.int).length : Nat) : Int) = ((rs.length : Nat) : Int) := by rw [hml]
  have hml3 : (((ls.map PyData.int).length : Nat) : Int) = ((ls.length : Nat) : Int) := by rw [List.length_map]
  have c21a : (([PyData.int 0] : List D) ≠ []) = True := eq_true (by simp)
  have c21b : ((0 + 1 : Nat) ≤ 1000) = True := eq_true (by decide)
  have c21c : ((1 : Nat) ≤ 1000) = True := eq_true (by decide)
  have r21 : (21 : Int).toNat = 21 := rfl
  simp only [F__law_refused_right, refused_body, kitD, cV_, cK_, cBin_, cCall_, cCons_, cNil_, cH_, cD_, cA_, cT_, cIf_, cAndT_, cOrT_, cNotT_, cAndV_, cOrV_, cNotV_, cChain_, cSl_, cPart_, cNoPart_, cMt_, cIsi_, cNeg_, cFn_, sNil_, sCons_, sIf_, sSet_, sPar_, sExpr_, sRet_, sRetN_, sRaise_, sBrk_, sCnt_, sStore_, fnOf_, iAny_, iR1_, iR2_, iEn_, gN_, gT_, gsN_, gsC_, stepS_, cYes_, lcF_, bT, iP, isTy, tyName, opTup, opLst, opAdd, opII, cDivB, opMul, opOrd, opEq, kD_nn, kD_ii, kD_bb, kD_ss, kD_ni, kD_nb, kD_ns, kD_in, kD_bn, kD_sn, kD_is, kD_si, kD_bs, kD_sb, kD_tuple1, kD_tuple2, kD_list1, kD_list2, kD_ib, kD_bi, opIsN, opIx, opSl, one, fLen, fInt, fAbs, fTup, fList, see, hold, toD, adopt, Rs.bind, Rs.thenS, opStore, expo, itmOf, wipeR, mAppend, mExtend, sAsg_, List.mapM_cons, List.mapM_nil, Option.bind_eq_bind, Option.bind_some, Option.pure_def, List.append_assoc, sz0, sy0, sz1, sy1, sz2, sy2, sz3, sy3, sz4, sy4, sz5, sy5, sz6, sy6, sz7, sy7, sz8, sy8, sz9, sy9, sz10, sy10, sz11, sy11, sz12, sy12, sz13, sy13, sz14, sy14, sz15, sy15, sz16, sy16, sz17, sy17, sz18, sy18, sz19, sy19, sz20, sy20, sz21, sy21, sz22, sy22, sz23, sy23, sz24, sy24, sz25, sy25, sz26, sy26, sz27, sy27, sz28, sy28, sz29, sy29, sz30, sy30, sz31, sy31, sz32, sy32, sz33, sy33, sz34, sy34, sz35, sy35, sz36, sy36, sz37, sy37, sz38, sy38, sz39, sy39, sz40, sy40, sPar3_, iZp_, cIsE_, zipOf, isL, opRepT, opIsB, fMax2, fMin2, mCountB, mIndexB, bools0, bools1, List.getElem?_cons_zero, List.getElem?_cons_succ, List.map_cons, List.map_nil, List.length_cons, List.length_nil, List.cons_append, List.nil_append, List.replicate_succ, List.replicate_zero, List.set_cons_zero, List.set_cons_succ, Nat.zero_add, Nat.reduceAdd, Nat.reduceSub, ↓reduceIte, reduceCtorEq, String.reduceBEq, kb_NoneType_int, kb_NoneType_bool, kb_NoneType_str, kb_NoneType_tuple, kb_NoneType_list, kb_NoneType_dict, kb_bool_int, kb_bool_bool, kb_bool_str, kb_bool_tuple, kb_bool_list, kb_bool_dict, kb_int_int, kb_int_bool, kb_int_str, kb_int_tuple, kb_int_list, kb_int_dict, kb_str_int, kb_str_bool, kb_str_str, kb_str_tuple, kb_str_list, kb_str_dict, kb_list_int, kb_list_bool, kb_list_str, kb_list_tuple, kb_list_list, kb_list_dict, kb_tuple_int, kb_tuple_bool, kb_tuple_str, kb_tuple_tuple, kb_tuple_list, kb_tuple_dict, kb_dict_int, kb_dict_bool, kb_dict_str, kb_dict_tuple, kb_dict_list, kb_dict_dict, String.reduceEq, Int.reduceLT, Int.reduceLE, Int.reduceNeg, Int.reducePow, Nat.reducePow, Int.reduceToNat, Nat.reduceLT, Nat.reduceLeDiff, decide_true, decide_false, and_self, and_true, true_and, or_true, true_or, or_false, false_or, Bool.not_true, Bool.not_false, Bool.true_eq_false, Bool.false_eq_true, Option.map_some, Option.map_none, e1, ix0, hml2, hml3, c21a, c21b, c21c, r21, e2, e3, e4, e5, tailrun]
end L28
set_option maxRecDepth 100000
set_option maxHeartbeats 2000000
namespace L28
open PySem PySem.Spec PyProof.Rows L2 Em
theorem strD_refl (g b : Int) (seg : List Int) (lo : Int) (k : Nat) (due : Int) : PyData.eqv (strD g b seg lo k due) (strD g b seg lo k due) = true ∧ (kinD (strD g b seg lo k due) (strD g b seg lo k due) = true ∨ SeqAt.shaped (strD g b seg lo k due) = true) := by
  unfold strD
  split
  · refine ⟨?_, .inr ?_⟩
    · simp [PyData.eqv, PyData.eqvAll]
    · simp [SeqAt.shaped, PyData.canLay0, PyData.canLayAll0, PyData.depth, PyData.depthAll]
  · exact ⟨rfl, .inl rfl⟩
theorem ints_refl (xs : List Int) : PyData.eqv (.tuple (xs.map .int)) (.tuple (xs.map .int)) = true ∧ SeqAt.shaped (.tuple (xs.map .int)) = true := by
  unfold SeqAt.shaped
  refine ⟨?_, ?_⟩
  · rw [PyData.eqv]
    induction xs with
    | nil => rfl
    | cons c cs ih => rw [List.map_cons, PyData.eqvAll, ih]; simp [PyData.eqv]
  · have h1 : PyData.canLayAll0 (xs.map PyData.int) = true := by
      induction xs with
      | nil => rfl
      | cons c cs ih => rw [List.map_cons, PyData.canLayAll0, ih]; rfl
    have h2 := depth_ints xs
    simp [PyData.canLay0, h1, PyData.depth, h2]
def burstI (rs : List Int) (lo g b : Int) : List Int := (List.range (rs.length + 1)).filterMap fun (k : Nat) => if g - S rs lo k > b then some (k : Int) else none
theorem burst_int (rs : List Int) (lo g b : Int) : burstD rs lo g b = (burstI rs lo g b).map .int := by
  unfold burstD burstI
  rw [List.map_filterMap]
  congr 1
  funext k
  split <;> rfl
/-! the spots, one by one -/
def bodyH : SC := (sCons (sIf (cT (cBin opGt (cH (cBin opSub (cH (cBin opIx (cH (cBin opIx (cV 3) (cK (.int 1)))) (cV 5))) (cV 12))) (cH (cBin opIx (cV 3) (cK (.int 3))))))
  (sExpr (cMt "list" mAppend (cV 13) (cCons (cV 14) cNil)))
  sNil)
  (sSet 12 (cH (cBin opAdd (cH (cBin opAdd (cV 12) (cH (cBin opIx (cH (cBin opIx (cV 3) (cK (.int 0)))) (cV 5))))) (cH (cIf (cT (cBin opLt (cV 14) (cH (cCall (one fLen) (cCons (cV 4) cNil))))) (cBin opIx (cV 4) (cV 14)) (cK (.int 0))))))))
theorem bodyH_run {ls gs rs : List Int} {a b F lo g : Int} {k : Nat} {dr : Int} {acc : List D} {z0 z1 z2 z6 z7 z8 z9 z10 z11 z14 z15 : Option R} {μ : Mem} (hl : L2.atI (ls.map PyData.int) F = some (.int lo)) (hg : L2.atI (gs.map PyData.int) F = some (.int g)) (hk : k ≤ rs.length) (hdr : dr = S rs lo k) (hacc : acc.length ≤ 100) :
    ∃ dr', stepS (gN 14) bodyH (.int (k : Int)) [z0, z1, z2, some (.d (kitD ls gs a b)), some (.d (.tuple (rs.map .int))), some (.d (.int F)), z6, z7, z8, z9, z10, z11, some (.d (.int dr)), some (.c μ.length), z14, z15] (μ ++ [.lst acc]) =
      .nx [z0, z1, z2, some (.d (kitD ls gs a b)), some (.d (.tuple (rs.map .int))), some (.d (.int F)), z6, z7, z8, z9, z10, z11, some (.d (.int dr')), some (.c μ.length), some (.d (.int (k : Int))), z15] (μ ++ [.lst (acc ++ (if g - S rs lo k > b then some (PyData.int (k : Int)) else none).toList)]) ∧ (k + 1 ≤ rs.length → dr' = S rs lo (k + 1)) := by
  subst hdr
  have hsz : acc.length < sizeLine := Nat.lt_of_lt_of_le (by omega : acc.length < 1000) (nat_sizeLine (by omega))
  have hml : (((rs.map PyData.int).length : Nat) : Int) = ((rs.length : Nat) : Int) := by rw [List.length_map]
  have hu := fun x => one0s (μ := μ) (a := .lst acc) (c := .lst (acc ++ [x]))
  have step : ∀ (x : Int) (hb : decide ((k : Int) < ((rs.length : Nat) : Int)) = true ∧ L2.atI (rs.map PyData.int) (k : Int) = some (.int x) ∨ decide ((k : Int) < ((rs.length : Nat) : Int)) = false ∧ x = 0),
      stepS (gN 14) bodyH (.int (k : Int)) [z0, z1, z2, some (.d (kitD ls gs a b)), some (.d (.tuple (rs.map .int))), some (.d (.int F)), z6, z7, z8, z9, z10, z11, some (.d (.int (S rs lo k))), some (.c μ.length), z14, z15] (μ ++ [.lst acc]) =
      .nx [z0, z1, z2, some (.d (kitD ls gs a b)), some (.d (.tuple (rs.map .int))), some (.d (.int F)), z6, z7, z8, z9, z10, z11, some (.d (.int (S rs lo k + lo + x))), some (.c μ.length), some (.d (.int (k : Int))), z15] (μ ++ [.lst (acc ++ (if g - S rs lo k > b then some (PyData.int (k : Int)) else none).toList)]) := by
    intro x hb
    generalize hK : (k : Int) = K at *
    by_cases c : decide (b < g - S rs lo k) = true
    · have c' : g - S rs lo k > b := of_decide_eq_true c
      rw [if_pos c', Option.toList_some]
      rcases hb with ⟨b1, b2⟩ | ⟨b1, rfl⟩
      · simp only [bodyH, kitD, cV_, cK_, cBin_, cCall_, cCons_, cNil_, cH_, cD_, cA_, cT_, cIf_, cAndT_, cOrT_, cNotT_, cAndV_, cOrV_, cNotV_, cChain_, cSl_, cPart_, cNoPart_, cMt_, cIsi_, cNeg_, cFn_, sNil_, sCons_, sIf_, sSet_, sPar_, sExpr_, sRet_, sRetN_, sRaise_, sBrk_, sCnt_, sStore_, fnOf_, iAny_, iR1_, iR2_, iEn_, gN_, gT_, gsN_, gsC_, stepS_, cYes_, lcF_, bT, iP, isTy, tyName, opTup, opLst, opAdd, opII, cDivB, opMul, opOrd, opEq, kD_nn, kD_ii, kD_bb, kD_ss, kD_ni, kD_nb, kD_ns, kD_in, kD_bn, kD_sn, kD_is, kD_si, kD_bs, kD_sb, kD_tuple1, kD_tuple2, kD_list1, kD_list2, kD_ib, kD_bi, opIsN, opIx, opSl, one, fLen, fInt, fAbs, fTup, fList, see, hold, toD, adopt, Rs.bind, Rs.thenS, opStore, expo, itmOf, wipeR, mAppend, mExtend, sAsg_, List.mapM_cons, List.mapM_nil, Option.bind_eq_bind, Option.bind_some, Option.pure_def, List.append_assoc, sz0, sy0, sz1, sy1, sz2, sy2, sz3, sy3, sz4, sy4, sz5, sy5, sz6, sy6, sz7, sy7, sz8, sy8, sz9, sy9, sz10, sy10, sz11, sy11, sz12, sy12, sz13, sy13, sz14, sy14, sz15, sy15, sz16, sy16, sz17, sy17, sz18, sy18, sz19, sy19, sz20, sy20, sz21, sy21, sz22, sy22, sz23, sy23, sz24, sy24, sz25, sy25, sz26, sy26, sz27, sy27, sz28, sy28, sz29, sy29, sz30, sy30, sz31, sy31, sz32, sy32, sz33, sy33, sz34, sy34, sz35, sy35, sz36, sy36, sz37, sy37, sz38, sy38, sz39, sy39, sz40, sy40, sPar3_, iZp_, cIsE_, zipOf, isL, opRepT, opIsB, fMax2, fMin2, mCountB, mIndexB, bools0, bools1, List.getElem?_cons_zero, List.getElem?_cons_succ, List.map_cons, List.map_nil, List.length_cons, List.length_nil, List.cons_append, List.nil_append, List.replicate_succ, List.replicate_zero, List.set_cons_zero, List.set_cons_succ, Nat.zero_add, Nat.reduceAdd, Nat.reduceSub, ↓reduceIte, reduceCtorEq, String.reduceBEq, kb_NoneType_int, kb_NoneType_bool, kb_NoneType_str, kb_NoneType_tuple, kb_NoneType_list, kb_NoneType_dict, kb_bool_int, kb_bool_bool, kb_bool_str, kb_bool_tuple, kb_bool_list, kb_bool_dict, kb_int_int, kb_int_bool, kb_int_str, kb_int_tuple, kb_int_list, kb_int_dict, kb_str_int, kb_str_bool, kb_str_str, kb_str_tuple, kb_str_list, kb_str_dict, kb_list_int, kb_list_bool, kb_list_str, kb_list_tuple, kb_list_list, kb_list_dict, kb_tuple_int, kb_tuple_bool, kb_tuple_str, kb_tuple_tuple, kb_tuple_list, kb_tuple_dict, kb_dict_int, kb_dict_bool, kb_dict_str, kb_dict_tuple, kb_dict_list, kb_dict_dict, String.reduceEq, Int.reduceLT, Int.reduceLE, Int.reduceNeg, Int.reducePow, Nat.reducePow, Int.reduceToNat, Nat.reduceLT, Nat.reduceLeDiff, decide_true, decide_false, and_self, and_true, true_and, or_true, true_or, or_false, false_or, Bool.not_true, Bool.not_false, Bool.true_eq_false, Bool.false_eq_true, Option.map_some, Option.map_none, ix0, ix11, ix43, hg, hl, c, one0, if_pos hsz, hu, hml, b1, b2]
      · simp only [bodyH, kitD, cV_, cK_, cBin_, cCall_, cCons_, cNil_, cH_, cD_, cA_, cT_, cIf_, cAndT_, cOrT_, cNotT_, cAndV_, cOrV_, cNotV_, cChain_, cSl_, cPart_, cNoPart_, cMt_, cIsi_, cNeg_, cFn_, sNil_, sCons_, sIf_, sSet_, sPar_, sExpr_, sRet_, sRetN_, sRaise_, sBrk_, sCnt_, sStore_, fnOf_, iAny_, iR1_, iR2_, iEn_, gN_, gT_, gsN_, gsC_, stepS_, cYes_, lcF_, bT, iP, isTy, tyName, opTup, opLst, opAdd, opII, cDivB, opMul, opOrd, opEq, kD_nn, kD_ii, kD_bb, kD_ss, kD_ni, kD_nb, kD_ns, kD_in, kD_bn, kD_sn, kD_is, kD_si, kD_bs, kD_sb, kD_tuple1, kD_tuple2, kD_list1, kD_list2, kD_ib, kD_bi, opIsN, opIx, opSl, one, fLen, fInt, fAbs, fTup, fList, see, hold, toD, adopt, Rs.bind, Rs.thenS, opStore, expo, itmOf, wipeR, mAppend, mExtend, sAsg_, List.mapM_cons, List.mapM_nil, Option.bind_eq_bind, Option.bind_some, Option.pure_def, List.append_assoc, sz0, sy0, sz1, sy1, sz2, sy2, sz3, sy3, sz4, sy4, sz5, sy5, sz6, sy6, sz7, sy7, sz8, sy8, sz9, sy9, sz10, sy10, sz11, sy11, sz12, sy12, sz13, sy13, sz14, sy14, sz15, sy15, sz16, sy16, sz17, sy17, sz18, sy18, sz19, sy19, sz20, sy20, sz21, sy21, sz22, sy22, sz23, sy23, sz24, sy24, sz25, sy25, sz26, sy26, sz27, sy27, sz28, sy28, sz29, sy29, sz30, sy30, sz31, sy31, sz32, sy32, sz33, sy33, sz34, sy34, sz35, sy35, sz36, sy36, sz37, sy37, sz38, sy38, sz39, sy39, sz40, sy40, sPar3_, iZp_, cIsE_, zipOf, isL, opRepT, opIsB, fMax2, fMin2, mCountB, mIndexB, bools0, bools1, List.getElem?_cons_zero, List.getElem?_cons_succ, List.map_cons, List.map_nil, List.length_cons, List.length_nil, List.cons_append, List.nil_append, List.replicate_succ, List.replicate_zero, List.set_cons_zero, List.set_cons_succ, Nat.zero_add, Nat.reduceAdd, Nat.reduceSub, ↓reduceIte, reduceCtorEq, String.reduceBEq, kb_NoneType_int, kb_NoneType_bool, kb_NoneType_str, kb_NoneType_tuple, kb_NoneType_list, kb_NoneType_dict, kb_bool_int, kb_bool_bool, kb_bool_str, kb_bool_tuple, kb_bool_list, kb_bool_dict, kb_int_int, kb_int_bool, kb_int_str, kb_int_tuple, kb_int_list, kb_int_dict, kb_str_int, kb_str_bool, kb_str_str, kb_str_tuple, kb_str_list, kb_str_dict, kb_list_int, kb_list_bool, kb_list_str, kb_list_tuple, kb_list_list, kb_list_dict, kb_tuple_int, kb_tuple_bool, kb_tuple_str, kb_tuple_tuple, kb_tuple_list, kb_tuple_dict, kb_dict_int, kb_dict_bool, kb_dict_str, kb_dict_tuple, kb_dict_list, kb_dict_dict, String.reduceEq, Int.reduceLT, Int.reduceLE, Int.reduceNeg, Int.reducePow, Nat.reducePow, Int.reduceToNat, Nat.reduceLT, Nat.reduceLeDiff, decide_true, decide_false, and_self, and_true, true_and, or_true, true_or, or_false, false_or, Bool.not_true, Bool.not_false, Bool.true_eq_false, Bool.false_eq_true, Option.map_some, Option.map_none, ix0, ix11, ix43, hg, hl, c, one0, if_pos hsz, hu, hml, b1]
    · have c2 := Bool.eq_false_iff.mpr c
      have c' : ¬ g - S rs lo k > b := of_decide_eq_false c2
      rw [if_neg c', Option.toList_none, List.append_nil]
      rcases hb with ⟨b1, b2⟩ | ⟨b1, rfl⟩
      · simp only [bodyH, kitD, cV_, cK_, cBin_, cCall_, cCons_, cNil_, cH_, cD_, cA_, cT_, cIf_, cAndT_, cOrT_, cNotT_, cAndV_, cOrV_, cNotV_, cChain_, cSl_, cPart_, cNoPart_, cMt_, cIsi_, cNeg_, cFn_, sNil_, sCons_, sIf_, sSet_, sPar_, sExpr_, sRet_, sRetN_, sRaise_, sBrk_, sCnt_, sStore_, fnOf_, iAny_, iR1_, iR2_, iEn_, gN_, gT_, gsN_, gsC_, stepS_, cYes_, lcF_, bT, iP, isTy, tyName, opTup, opLst, opAdd, opII, cDivB, opMul, opOrd, opEq, kD_nn, kD_ii, kD_bb, kD_ss, kD_ni, kD_nb, kD_ns, kD_in, kD_bn, kD_sn, kD_is, kD_si, kD_bs, kD_sb, kD_tuple1, kD_tuple2, kD_list1, kD_list2, kD_ib, kD_bi, opIsN, opIx, opSl, one, fLen, fInt, fAbs, fTup, fList, see, hold, toD, adopt, Rs.bind, Rs.thenS, opStore, expo, itmOf, wipeR, mAppend, mExtend, sAsg_, List.mapM_cons, List.mapM_nil, Option.bind_eq_bind, Option.bind_some, Option.pure_def, List.append_assoc, sz0, sy0, sz1, sy1, sz2, sy2, sz3, sy3, sz4, sy4, sz5, sy5, sz6, sy6, sz7, sy7, sz8, sy8, sz9, sy9, sz10, sy10, sz11, sy11, sz12, sy12, sz13, sy13, sz14, sy14, sz15, sy15, sz16, sy16, sz17, sy17, sz18, sy18, sz19, sy19, sz20, sy20, sz21, sy21, sz22, sy22, sz23, sy23, sz24, sy24, sz25, sy25, sz26, sy26, sz27, sy27, sz28, sy28, sz29, sy29, sz30, sy30, sz31, sy31, sz32, sy32, sz33, sy33, sz34, sy34, sz35, sy35, sz36, sy36, sz37, sy37, sz38, sy38, sz39, sy39, sz40, sy40, sPar3_, iZp_, cIsE_, zipOf, isL, opRepT, opIsB, fMax2, fMin2, mCountB, mIndexB, bools0, bools1, List.getElem?_cons_zero, List.getElem?_cons_succ, List.map_cons, List.map_nil, List.length_cons, List.length_nil, List.cons_append, List.nil_append, List.replicate_succ, List.replicate_zero, List.set_cons_zero, List.set_cons_succ, Nat.zero_add, Nat.reduceAdd, Nat.reduceSub, ↓reduceIte, reduceCtorEq, String.reduceBEq, kb_NoneType_int, kb_NoneType_bool, kb_NoneType_str, kb_NoneType_tuple, kb_NoneType_list, kb_NoneType_dict, kb_bool_int, kb_bool_bool, kb_bool_str, kb_bool_tuple, kb_bool_list, kb_bool_dict, kb_int_int, kb_int_bool, kb_int_str, kb_int_tuple, kb_int_list, kb_int_dict, kb_str_int, kb_str_bool, kb_str_str, kb_str_tuple, kb_str_list, kb_str_dict, kb_list_int, kb_list_bool, kb_list_str, kb_list_tuple, kb_list_list, kb_list_dict, kb_tuple_int, kb_tuple_bool, kb_tuple_str, kb_tuple_tuple, kb_tuple_list, kb_tuple_dict, kb_dict_int, kb_dict_bool, kb_dict_str, kb_dict_tuple, kb_dict_list, kb_dict_dict, String.reduceEq, Int.reduceLT, Int.reduceLE, Int.reduceNeg, Int.reducePow, Nat.reducePow, Int.reduceToNat, Nat.reduceLT, Nat.reduceLeDiff, decide_true, decide_false, and_self, and_true, true_and, or_true, true_or, or_false, false_or, Bool.not_true, Bool.not_false, Bool.true_eq_false, Bool.false_eq_true, Option.map_some, Option.map_none, ix0, ix11, ix43, hg, hl, c2, one0, if_pos hsz, hu, hml, b1, b2]
      · simp only [bodyH, kitD, cV_, cK_, cBin_, cCall_, cCons_, cNil_, cH_, cD_, cA_, cT_, cIf_, cAndT_, cOrT_, cNotT_, cAndV_, cOrV_, cNotV_, cChain_, cSl_, cPart_, cNoPart_, cMt_, cIsi_, cNeg_, cFn_, sNil_, sCons_, sIf_, sSet_, sPar_, sExpr_, sRet_, sRetN_, sRaise_, sBrk_, sCnt_, sStore_, fnOf_, iAny_, iR1_, iR2_, iEn_, gN_, gT_, gsN_, gsC_, stepS_, cYes_, lcF_, bT, iP, isTy, tyName, opTup, opLst, opAdd, opII, cDivB, opMul, opOrd, opEq, kD_nn, kD_ii, kD_bb, kD_ss, kD_ni, kD_nb, kD_ns, kD_in, kD_bn, kD_sn, kD_is, kD_si, kD_bs, kD_sb, kD_tuple1, kD_tuple2, kD_list1, kD_list2, kD_ib, kD_bi, opIsN, opIx, opSl, one, fLen, fInt, fAbs, fTup, fList, see, hold, toD, adopt, Rs.bind, Rs.thenS, opStore, expo, itmOf, wipeR, mAppend, mExtend, sAsg_, List.mapM_cons, List.mapM_nil, Option.bind_eq_bind, Option.bind_some, Option.pure_def, List.append_assoc, sz0, sy0, sz1, sy1, sz2, sy2, sz3, sy3, sz4, sy4, sz5, sy5, sz6, sy6, sz7, sy7, sz8, sy8, sz9, sy9, sz10, sy10, sz11, sy11, sz12, sy12, sz13, sy13, sz14, sy14, sz15, sy15, sz16, sy16, sz17, sy17, sz18, sy18, sz19, sy19, sz20, sy20, sz21, sy21, sz22, sy22, sz23, sy23, sz24, sy24, sz25, sy25, sz26, sy26, sz27, sy27, sz28, sy28, sz29, sy29, sz30, sy30, sz31, sy31, sz32, sy32, sz33, sy33, sz34, sy34, sz35, sy35, sz36, sy36, sz37, sy37, sz38, sy38, sz39, sy39, sz40, sy40, sPar3_, iZp_, cIsE_, zipOf, isL, opRepT, opIsB, fMax2, fMin2, mCountB, mIndexB, bools0, bools1, List.getElem?_cons_zero, List.getElem?_cons_succ, List.map_cons, List.map_nil, List.length_cons, List.length_nil, List.cons_append, List.nil_append, List.replicate_succ, List.replicate_zero, List.set_cons_zero, List.set_cons_succ, Nat.zero_add, Nat.reduceAdd, Nat.reduceSub, ↓reduceIte, reduceCtorEq, String.reduceBEq, kb_NoneType_int, kb_NoneType_bool, kb_NoneType_str, kb_NoneType_tuple, kb_NoneType_list, kb_NoneType_dict, kb_bool_int, kb_bool_bool, kb_bool_str, kb_bool_tuple, kb_bool_list, kb_bool_dict, kb_int_int, kb_int_bool, kb_int_str, kb_int_tuple, kb_int_list, kb_int_dict, kb_str_int, kb_str_bool, kb_str_str, kb_str_tuple, kb_str_list, kb_str_dict, kb_list_int, kb_list_bool, kb_list_str, kb_list_tuple, kb_list_list, kb_list_dict, kb_tuple_int, kb_tuple_bool, kb_tuple_str, kb_tuple_tuple, kb_tuple_list, kb_tuple_dict, kb_dict_int, kb_dict_bool, kb_dict_str, kb_dict_tuple, kb_dict_list, kb_dict_dict, String.reduceEq, Int.reduceLT, Int.reduceLE, Int.reduceNeg, Int.reducePow, Nat.reducePow, Int.reduceToNat, Nat.reduceLT, Nat.reduceLeDiff, decide_true, decide_false, and_self, and_true, true_and, or_true, true_or, or_false, false_or, Bool.not_true, Bool.not_false, Bool.true_eq_false, Bool.false_eq_true, Option.map_some, Option.map_none, ix0, ix11, ix43, hg, hl, c2, one0, if_pos hsz, hu, hml, b1]
  by_cases hlt : k < rs.length
  · have hx : rs[k]? = some rs[k] := List.getElem?_eq_getElem hlt
    refine ⟨_, step rs[k] (.inl ⟨decide_eq_true (by omega), atI_ints hx⟩), fun _ => ?_⟩
    rw [S_succ hx]; omega
  · exact ⟨_, step 0 (.inr ⟨decide_eq_false (by omega), rfl⟩), fun h => by omega⟩
theorem spots_run {ls gs rs : List Int} {a b F lo g : Int} {z0 z1 z2 z6 z7 z8 z9 z10 z11 z14 z15 : Option R} {μ : Mem} (hl : L2.atI (ls.map PyData.int) F = some (.int lo)) (hg : L2.atI (gs.map PyData.int) F = some (.int g)) (hr : rs.length ≤ 50) :
    ∃ y12 y14, sFor (iR1 (cH (cBin opAdd (cH (cCall (one fLen) (cCons (cV 4) cNil))) (cK (.int 1))))) (gN 14) bodyH [z0, z1, z2, some (.d (kitD ls gs a b)), some (.d (.tuple (rs.map .int))), some (.d (.int F)), z6, z7, z8, z9, z10, z11, some (.d (.int 0)), some (.c μ.length), z14, z15] (μ ++ [.lst []]) =
      .nx [z0, z1, z2, some (.d (kitD ls gs a b)), some (.d (.tuple (rs.map .int))), some (.d (.int F)), z6, z7, z8, z9, z10, z11, y12, some (.c μ.length), y14, z15] (μ ++ [.lst (burstD rs lo g b)]) := by
  obtain ⟨ρ', μ', ef, dr, y14, rfl, hμ, _⟩ := for_inv (b := stepS (gN 14) bodyH) (itm_rng 0 (rs.length + 1)) (fun i ρ μ' => ∃ (dr : Int) (y14 : Option R), ρ = [z0, z1, z2, some (.d (kitD ls gs a b)), some (.d (.tuple (rs.map .int))), some (.d (.int F)), z6, z7, z8, z9, z10, z11, some (.d (.int dr)), some (.c μ.length), y14, z15] ∧ μ' = μ ++ [.lst ((List.range i).filterMap fun (k : Nat) => if g - S rs lo k > b then some (PyData.int (k : Int)) else none)] ∧ (i ≤ rs.length → dr = S rs lo i)) (fun i d ρ μ' hd hI => by
    obtain ⟨dr, y14, rfl, rfl, hdr⟩ := hI
    have hi : i < rs.length + 1 := by
      have := (List.getElem?_eq_some_iff.mp hd).1
      simpa [rngD] using this
    have hd' : d = .int (i : Int) := by
      unfold rngD at hd
      rw [List.getElem?_map, List.getElem?_range (by omega)] at hd
      simpa using hd.symm
    subst hd'
    obtain ⟨dr', e, hdr'⟩ := bodyH_run (ls := ls) (gs := gs) (rs := rs) (a := a) (b := b) (F := F) (lo := lo) (g := g) (k := i) (dr := dr) (acc := (List.range i).filterMap fun (k : Nat) => if g - S rs lo k > b then some (PyData.int (k : Int)) else none) (z0 := z0) (z1 := z1) (z2 := z2) (z6 := z6) (z7 := z7) (z8 := z8) (z9 := z9) (z10 := z10) (z11 := z11) (z14 := y14) (z15 := z15) (μ := μ) hl hg (by omega) (hdr (by omega)) (Nat.le_trans (List.length_filterMap_le _ _) (by simp; omega))
    refine ⟨_, _, e, dr', _, rfl, ?_, hdr'⟩
    rw [List.range_succ, List.filterMap_append]
    congr 4) (ρ := [z0, z1, z2, some (.d (kitD ls gs a b)), some (.d (.tuple (rs.map .int))), some (.d (.int F)), z6, z7, z8, z9, z10, z11, some (.d (.int 0)), some (.c μ.length), z14, z15]) (μ := μ ++ [.lst []]) ⟨0, z14, rfl, rfl, fun _ => rfl⟩
  refine ⟨some (.d (.int dr)), y14, ?_⟩
  have hn : (rngD 0 (rs.length + 1)).length = rs.length + 1 := by simp [rngD]
  rw [hn] at hμ
  have hci : iR1 (cH (cBin opAdd (cH (cCall (one fLen) (cCons (cV 4) cNil))) (cK (.int 1)))) [z0, z1, z2, some (.d (kitD ls gs a b)), some (.d (.tuple (rs.map .int))), some (.d (.int F)), z6, z7, z8, z9, z10, z11, some (.d (.int 0)), some (.c μ.length), z14, z15] (μ ++ [.lst []]) = .ok (.rng 0 1 (rs.length + 1)) (μ ++ [.lst []]) := by
    have e := iR1_ok (c := cH (cBin opAdd (cH (cCall (one fLen) (cCons (cV 4) cNil))) (cK (.int 1)))) (ρ := [z0, z1, z2, some (.d (kitD ls gs a b)), some (.d (.tuple (rs.map .int))), some (.d (.int F)), z6, z7, z8, z9, z10, z11, some (.d (.int 0)), some (.c μ.length), z14, z15]) (μ := μ ++ [.lst []]) (μ' := μ ++ [.lst []]) (J := (((rs.map PyData.int).length : Nat) : Int) + 1) (by simp only [cV_, cK_, cBin_, cCall_, cCons_, cNil_, cH_, cD_, cA_, cT_, cIf_, cAndT_, cOrT_, cNotT_, cAndV_, cOrV_, cNotV_, cChain_, cSl_, cPart_, cNoPart_, cMt_, cIsi_, cNeg_, cFn_, sNil_, sCons_, sIf_, sSet_, sPar_, sExpr_, sRet_, sRetN_, sRaise_, sBrk_, sCnt_, sStore_, fnOf_, iAny_, iR1_, iR2_, iEn_, gN_, gT_, gsN_, gsC_, stepS_, cYes_, lcF_, bT, iP, isTy, tyName, opTup, opLst, opAdd, opII, cDivB, opMul, opOrd, opEq, kD_nn, kD_ii, kD_bb, kD_ss, kD_ni, kD_nb, kD_ns, kD_in, kD_bn, kD_sn, kD_is, kD_si, kD_bs, kD_sb, kD_tuple1, kD_tuple2, kD_list1, kD_list2, kD_ib, kD_bi, opIsN, opIx, opSl, one, fLen, fInt, fAbs, fTup, fList, see, hold, toD, adopt, Rs.bind, Rs.thenS, opStore, expo, itmOf, wipeR, mAppend, mExtend, sAsg_, List.mapM_cons, List.mapM_nil, Option.bind_eq_bind, Option.bind_some, Option.pure_def, List.append_assoc, sz0, sy0, sz1, sy1, sz2, sy2, sz3, sy3, sz4, sy4, sz5, sy5, sz6, sy6, sz7, sy7, sz8, sy8, sz9, sy9, sz10, sy10, sz11, sy11, sz12, sy12, sz13, sy13, sz14, sy14, sz15, sy15, sz16, sy16, sz17, sy17, sz18, sy18, sz19, sy19, sz20, sy20, sz21, sy21, sz22, sy22, sz23, sy23, sz24, sy24, sz25, sy25, sz26, sy26, sz27, sy27, sz28, sy28, sz29, sy29, sz30, sy30, sz31, sy31, sz32, sy32, sz33, sy33, sz34, sy34, sz35, sy35, sz36, sy36, sz37, sy37, sz38, sy38, sz39, sy39, sz40, sy40, sPar3_, iZp_, cIsE_, zipOf, isL, opRepT, opIsB, fMax2, fMin2, mCountB, mIndexB, bools0, bools1, List.getElem?_cons_zero, List.getElem?_cons_succ, List.map_cons, List.map_nil, List.length_cons, List.length_nil, List.cons_append, List.nil_append, List.replicate_succ, List.replicate_zero, List.set_cons_zero, List.set_cons_succ, Nat.zero_add, Nat.reduceAdd, Nat.reduceSub, ↓reduceIte, reduceCtorEq, String.reduceBEq, kb_NoneType_int, kb_NoneType_bool, kb_NoneType_str, kb_NoneType_tuple, kb_NoneType_list, kb_NoneType_dict, kb_bool_int, kb_bool_bool, kb_bool_str, kb_bool_tuple, kb_bool_list, kb_bool_dict, kb_int_int, kb_int_bool, kb_int_str, kb_int_tuple, kb_int_list, kb_int_dict, kb_str_int, kb_str_bool, kb_str_str, kb_str_tuple, kb_str_list, kb_str_dict, kb_list_int, kb_list_bool, kb_list_str, kb_list_tuple, kb_list_list, kb_list_dict, kb_tuple_int, kb_tuple_bool, kb_tuple_str, kb_tuple_tuple, kb_tuple_list, kb_tuple_dict, kb_dict_int, kb_dict_bool, kb_dict_str, kb_dict_tuple, kb_dict_list, kb_dict_dict, String.reduceEq, Int.reduceLT, Int.reduceLE, Int.reduceNeg, Int.reducePow, Nat.reducePow, Int.reduceToNat, Nat.reduceLT, Nat.reduceLeDiff, decide_true, decide_false, and_self, and_true, true_and, or_true, true_or, or_false, false_or, Bool.not_true, Bool.not_false, Bool.true_eq_false, Bool.false_eq_true, Option.map_some, Option.map_none]) (by omega) (by rw [List.length_map]; omega)
    rw [e, List.length_map]
    rfl
  rw [(sFor_eq (g := gN 14) (b := bodyH) (itm_rng 0 (rs.length + 1)) hci).trans ef, hμ]
  rfl
end L28
set_option maxRecDepth 100000
set_option maxHeartbeats 2000000
namespace L28
open PySem PySem.Spec PyProof.Rows L2 Em
theorem asked_ok {ls gs : List Int} {a b F lo : Int} {r : D} (hl : L2.atI (ls.map PyData.int) F = some (.int lo)) (μ : Mem) : F__law_asked [.d (kitD ls gs a b), .d r, .d (.int F)] μ = .ok (.d (.tuple [kitD ls gs a b, r, .int F, .int lo])) μ := by
  simp only [F__law_asked, C__law_asked, kitD, cV_, cK_, cBin_, cCall_, cCons_, cNil_, cH_, cD_, cA_, cT_, cIf_, cAndT_, cOrT_, cNotT_, cAndV_, cOrV_, cNotV_, cChain_, cSl_, cPart_, cNoPart_, cMt_, cIsi_, cNeg_, cFn_, sNil_, sCons_, sIf_, sSet_, sPar_, sExpr_, sRet_, sRetN_, sRaise_, sBrk_, sCnt_, sStore_, fnOf_, iAny_, iR1_, iR2_, iEn_, gN_, gT_, gsN_, gsC_, stepS_, cYes_, lcF_, bT, iP, isTy, tyName, opTup, opLst, opAdd, opII, cDivB, opMul, opOrd, opEq, kD_nn, kD_ii, kD_bb, kD_ss, kD_ni, kD_nb, kD_ns, kD_in, kD_bn, kD_sn, kD_is, kD_si, kD_bs, kD_sb, kD_tuple1, kD_tuple2, kD_list1, kD_list2, kD_ib, kD_bi, opIsN, opIx, opSl, one, fLen, fInt, fAbs, fTup, fList, see, hold, toD, adopt, Rs.bind, Rs.thenS, opStore, expo, itmOf, wipeR, mAppend, mExtend, sAsg_, List.mapM_cons, List.mapM_nil, Option.bind_eq_bind, Option.bind_some, Option.pure_def, List.append_assoc, sz0, sy0, sz1, sy1, sz2, sy2, sz3, sy3, sz4, sy4, sz5, sy5, sz6, sy6, sz7, sy7, sz8, sy8, sz9, sy9, sz10, sy10, sz11, sy11, sz12, sy12, sz13, sy13, sz14, sy14, sz15, sy15, sz16, sy16, sz17, sy17, sz18, sy18, sz19, sy19, sz20, sy20, sz21, sy21, sz22, sy22, sz23, sy23, sz24, sy24, sz25, sy25, sz26, sy26, sz27, sy27, sz28, sy28, sz29, sy29, sz30, sy30, sz31, sy31, sz32, sy32, sz33, sy33, sz34, sy34, sz35, sy35, sz36, sy36, sz37, sy37, sz38, sy38, sz39, sy39, sz40, sy40, sPar3_, iZp_, cIsE_, zipOf, isL, opRepT, opIsB, fMax2, fMin2, mCountB, mIndexB, bools0, bools1, List.getElem?_cons_zero, List.getElem?_cons_succ, List.map_cons, List.map_nil, List.length_cons, List.length_nil, List.cons_append, List.nil_append, List.replicate_succ, List.replicate_zero, List.set_cons_zero, List.set_cons_succ, Nat.zero_add, Nat.reduceAdd, Nat.reduceSub, ↓reduceIte, reduceCtorEq, String.reduceBEq, kb_NoneType_int, kb_NoneType_bool, kb_NoneType_str, kb_NoneType_tuple, kb_NoneType_list, kb_NoneType_dict, kb_bool_int, kb_bool_bool, kb_bool_str, kb_bool_tuple, kb_bool_list, kb_bool_dict, kb_int_int, kb_int_bool, kb_int_str, kb_int_tuple, kb_int_list, kb_int_dict, kb_str_int, kb_str_bool, kb_str_str, kb_str_tuple, kb_str_list, kb_str_dict, kb_list_int, kb_list_bool, kb_list_str, kb_list_tuple, kb_list_list, kb_list_dict, kb_tuple_int, kb_tuple_bool, kb_tuple_str, kb_tuple_tuple, kb_tuple_list, kb_tuple_dict, kb_dict_int, kb_dict_bool, kb_dict_str, kb_dict_tuple, kb_dict_list, kb_dict_dict, String.reduceEq, Int.reduceLT, Int.reduceLE, Int.reduceNeg, Int.reducePow, Nat.reducePow, Int.reduceToNat, Nat.reduceLT, Nat.reduceLeDiff, decide_true, decide_false, and_self, and_true, true_and, or_true, true_or, or_false, false_or, Bool.not_true, Bool.not_false, Bool.true_eq_false, Bool.false_eq_true, Option.map_some, Option.map_none, ix0, hl, List.take_length]
def fl1 : SC := (sPar 6 7 (cH (cFn 3 F__law_asked (cCons (cV 3) (cCons (cV 4) (cCons (cV 5) cNil))))) (cH (cFn 2 F__law_draw (cCons (cV 1) (cCons (cH (cCall (one fLen) (cCons (cV 4) cNil))) cNil)))))
def fl2 : SC := (sPar 8 9 (cH (cBin opAdd (cH (cBin opAdd (cV 7) (cK (.int 1)))) (cH (cFn 2 F__law_draw (cCons (cV 1) (cCons (cH (cBin opSub (cH (cCall (one fLen) (cCons (cV 4) cNil))) (cV 7))) cNil)))))) (cH (cFn 2 F__law_draw (cCons (cV 1) (cCons (cK (.int 20)) cNil)))))
def fl3 (k : SC) : SC := (sCons (sSet 10 (cH (cFn 4 F__law_stretch (cCons (cV 6) (cCons (cV 7) (cCons (cV 8) (cCons (cV 9) cNil)))))))
  (sCons (sIf (cT (cBin (opEq true) (cH (cFn 6 F_stretch_told (cCons (cV 3) (cCons (cV 4) (cCons (cV 5) (cCons (cV 7) (cCons (cV 8) (cCons (cV 9) cNil)))))))) (cV 10)))
  (sRet (cK (.bool false)))
  sNil)
  (sCons (sSet 11 (cH (cFn 6 F_stretch_told (cCons (cV 3) (cCons (cV 4) (cCons (cV 5) (cCons (cV 7) (cCons (cV 8) (cCons (cH (cBin opAdd (cV 9) (cK (.int 3)))) cNil)))))))))
  (sCons (sIf (cAndT (cT (cBin (opIsN true) (cV 11) (cK .none))) (cOrT (cT (cBin (opIsN false) (cV 10) (cK .none))) (cOrT (cT (cBin opGt (cH (cBin opIx (cV 10) (cK (.int 0)))) (cH (cBin opIx (cV 11) (cK (.int 0)))))) (cT (cBin (opEq true) (cH (cBin opIx (cV 10) (cK (.int 1)))) (cH (cBin opIx (cV 11) (cK (.int 1)))))))))
  (sRet (cK (.bool false)))
  sNil) k))))
def fl4 (k : SC) : SC := (sCons (sPar 12 13 (cK (.int 0)) (cA (cCall opLst cNil)))
  (sCons (sFor (iR1 (cH (cBin opAdd (cH (cCall (one fLen) (cCons (cV 4) cNil))) (cK (.int 1))))) (gN 14) bodyH)
  (sCons (sIf (cT (cBin (opEq true) (cH (cFn 3 F_can_burst (cCons (cV 3) (cCons (cV 4) (cCons (cV 5) cNil))))) (cH (cCall (one fTup) (cCons (cV 13) cNil)))))
  (sRet (cK (.bool false)))
  sNil) k)))
def fl5 : SC := (sCons (sSet 15 (cH (cBin opAdd (cK (.int 1)) (cH (cFn 2 F__law_draw (cCons (cV 1) (cCons (cK (.int 4)) cNil)))))))
  (sIf (cT (cBin (opEq true) (cH (cFn 3 F_loss_of (cCons (cV 3) (cCons (cV 5) (cCons (cV 15) cNil))))) (cH (cBin opIx (cH (cBin opIx (cV 3) (cK (.int 0)))) (cH (cBin opDiv (cH (cBin opSub (cH (cBin opAdd (cV 5) (cV 15))) (cK (.int 1)))) (cV 15)))))))
  (sRet (cK (.bool false)))
  sNil))
def bodyF : SC := sCons fl1 (sCons fl2 (fl3 (fl4 fl5)))
theorem fl3_run {k : SC} {ls gs rs : List Int} {a b lo g due : Int} {f i j : Nat} {z0 z1 z2 z10 z11 z12 z13 z14 z15 : Option R} {μ : Mem} (hkit : ∀ μ, F_is_kit [.d (kitD ls gs a b)] μ = .ok (.d (.bool true)) μ) (hnr : nd2 (.tuple (rs.map .int))) (hrb : riseB (.tuple (rs.map .int)) = true)
    (hf : f < ls.length) (hl : ls[f]? = some lo) (hg : gs[f]? = some g) (h1 : i + 1 ≤ j) (h2 : j ≤ rs.length) (h3 : rs.length ≤ 20) (d0 : 0 ≤ due) (d1 : due < 20) :
    ∃ y10 y11, fl3 k [z0, z1, z2, some (.d (kitD ls gs a b)), some (.d (.tuple (rs.map .int))), some (.d (.int (f : Int))), some (.d (.tuple [kitD ls gs a b, .tuple (rs.map .int), .int (f : Int), .int lo])), some (.d (.int (i : Int))), some (.d (.int (j : Int))), some (.d (.int due)), z10, z11, z12, z13, z14, z15] μ =
      k [z0, z1, z2, some (.d (kitD ls gs a b)), some (.d (.tuple (rs.map .int))), some (.d (.int (f : Int))), some (.d (.tuple [kitD ls gs a b, .tuple (rs.map .int), .int (f : Int), .int lo])), some (.d (.int (i : Int))), some (.d (.int (j : Int))), some (.d (.int due)), y10, y11, z12, z13, z14, z15] μ := by
  have hml : (((rs.map PyData.int).length : Nat) : Int) = ((rs.length : Nat) : Int) := by rw [List.length_map]
  have L0 : ∀ μ, F_check_line_of [.d (kitD ls gs a b), .d (.tuple (rs.map .int)), .d (.int (f : Int))] μ = .ok (.d .none) μ := fun μ => by
    rw [line_flow hkit hnr hrb rfl, if_pos (within_yes (by omega))]
  have T : ∀ due : Int, 0 ≤ due → due ≤ 1000 → ∀ μ, F_stretch_told [.d (kitD ls gs a b), .d (.tuple (rs.map .int)), .d (.int (f : Int)), .d (.int (i : Int)), .d (.int (j : Int)), .d (.int due)] μ = .ok (.d (strD g b ((rs.drop i).take (j - i)) lo (j - i) due)) μ := fun due d0 d1 =>
    told_all L0 (within_yes (by omega)) (within_yes (by omega)) (within_yes (by omega)) (raw_stretch_ok ls gs rs a b f i j due lo g (by omega) h2 (by omega) hl hg)
  have A := law_stretch_ok ls gs rs a b f i j due lo g (by omega) h2 (by omega) hg
  have B1 := T due d0 (by omega)
  have B2 := T (due + 3) (by omega) (by omega)
  obtain ⟨q1, q2⟩ := strD_refl g b ((rs.drop i).take (j - i)) lo (j - i) due
  generalize (rs.drop i).take (j - i) = seg at *
  generalize (f : Int) = F at *
  generalize (i : Int) = I at *
  generalize (j : Int) = J at *
  refine ⟨some (.d (strD g b seg lo (j - i) due)), some (.d (strD g b seg lo (j - i) (due + 3))), ?_⟩
  by_cases hc : max (mx seg lo (j - i)) (S seg lo (j - i) + (due + 3)) ≤ min g (b + mn seg lo (j - i))
  · have hc0 : max (mx seg lo (j - i)) (S seg lo (j - i) + due) ≤ min g (b + mn seg lo (j - i)) := by omega
    have s1 : strD g b seg lo (j - i) due = .tuple [.int (max (mx seg lo (j - i)) (S seg lo (j - i) + due)), .int (min g (b + mn seg lo (j - i)))] := if_pos hc0
    have s2 : strD g b seg lo (j - i) (due + 3) = .tuple [.int (max (mx seg lo (j - i)) (S seg lo (j - i) + (due + 3))), .int (min g (b + mn seg lo (j - i)))] := if_pos hc
    rw [s1] at A B1 q1 q2 ⊢
    rw [s2] at B2 ⊢
    have g1 : decide (max (mx seg lo (j - i)) (S seg lo (j - i) + (due + 3)) < max (mx seg lo (j - i)) (S seg lo (j - i) + due)) = false := decide_eq_false (by omega)
    have q2' : SeqAt.shaped (.tuple [.int (max (mx seg lo (j - i)) (S seg lo (j - i) + due)), .int (min g (b + mn seg lo (j - i)))]) = true := q2.resolve_left (by simp [kinD])
    have rf : ∀ x : Int, PyData.eqv (.int x) (.int x) = true := fun x => by simp [PyData.eqv]
    simp only [fl3, cV_, cK_, cBin_, cCall_, cCons_, cNil_, cH_, cD_, cA_, cT_, cIf_, cAndT_, cOrT_, cNotT_, cAndV_, cOrV_, cNotV_, cChain_, cSl_, cPart_, cNoPart_, cMt_, cIsi_, cNeg_, cFn_, sNil_, sCons_, sIf_, sSet_, sPar_, sExpr_, sRet_, sRetN_, sRaise_, sBrk_, sCnt_, sStore_, fnOf_, iAny_, iR1_, iR2_, iEn_, gN_, gT_, gsN_, gsC_, stepS_, cYes_, lcF_, bT, iP, isTy, tyName, opTup, opLst, opAdd, opII, cDivB, opMul, opOrd, opEq, kD_nn, kD_ii, kD_bb, kD_ss, kD_ni, kD_nb, kD_ns, kD_in, kD_bn, kD_sn, kD_is, kD_si, kD_bs, kD_sb, kD_tuple1, kD_tuple2, kD_list1, kD_list2, kD_ib, kD_bi, opIsN, opIx, opSl, one, fLen, fInt, fAbs, fTup, fList, see, hold, toD, adopt, Rs.bind, Rs.thenS, opStore, expo, itmOf, wipeR, mAppend, mExtend, sAsg_, List.mapM_cons, List.mapM_nil, Option.bind_eq_bind, Option.bind_some, Option.pure_def, List.append_assoc, sz0, sy0, sz1, sy1, sz2, sy2, sz3, sy3, sz4, sy4, sz5, sy5, sz6, sy6, sz7, sy7, sz8, sy8, sz9, sy9, sz10, sy10, sz11, sy11, sz12, sy12, sz13, sy13, sz14, sy14, sz15, sy15, sz16, sy16, sz17, sy17, sz18, sy18, sz19, sy19, sz20, sy20, sz21, sy21, sz22, sy22, sz23, sy23, sz24, sy24, sz25, sy25, sz26, sy26, sz27, sy27, sz28, sy28, sz29, sy29, sz30, sy30, sz31, sy31, sz32, sy32, sz33, sy33, sz34, sy34, sz35, sy35, sz36, sy36, sz37, sy37, sz38, sy38, sz39, sy39, sz40, sy40, sPar3_, iZp_, cIsE_, zipOf, isL, opRepT, opIsB, fMax2, fMin2, mCountB, mIndexB, bools0, bools1, List.getElem?_cons_zero, List.getElem?_cons_succ, List.map_cons, List.map_nil, List.length_cons, List.length_nil, List.cons_append, List.nil_append, List.replicate_succ, List.replicate_zero, List.set_cons_zero, List.set_cons_succ, Nat.zero_add, Nat.reduceAdd, Nat.reduceSub, ↓reduceIte, reduceCtorEq, String.reduceBEq, kb_NoneType_int, kb_NoneType_bool, kb_NoneType_str, kb_NoneType_tuple, kb_NoneType_list, kb_NoneType_dict, kb_bool_int, kb_bool_bool, kb_bool_str, kb_bool_tuple, kb_bool_list, kb_bool_dict, kb_int_int, kb_int_bool, kb_int_str, kb_int_tuple, kb_int_list, kb_int_dict, kb_str_int, kb_str_bool, kb_str_str, kb_str_tuple, kb_str_list, kb_str_dict, kb_list_int, kb_list_bool, kb_list_str, kb_list_tuple, kb_list_list, kb_list_dict, kb_tuple_int, kb_tuple_bool, kb_tuple_str, kb_tuple_tuple, kb_tuple_list, kb_tuple_dict, kb_dict_int, kb_dict_bool, kb_dict_str, kb_dict_tuple, kb_dict_list, kb_dict_dict, String.reduceEq, Int.reduceLT, Int.reduceLE, Int.reduceNeg, Int.reducePow, Nat.reducePow, Int.reduceToNat, Nat.reduceLT, Nat.reduceLeDiff, decide_true, decide_false, and_self, and_true, true_and, or_true, true_or, or_false, false_or, Bool.not_true, Bool.not_false, Bool.true_eq_false, Bool.false_eq_true, Option.map_some, Option.map_none, A, B1, B2, q1, q2', opIsN, ix0, ix11, g1, rf]
  · have s2 : strD g b seg lo (j - i) (due + 3) = .none := if_neg hc
    rw [s2] at B2 ⊢
    generalize strD g b seg lo (j - i) due = X at *
    simp only [fl3, cV_, cK_, cBin_, cCall_, cCons_, cNil_, cH_, cD_, cA_, cT_, cIf_, cAndT_, cOrT_, cNotT_, cAndV_, cOrV_, cNotV_, cChain_, cSl_, cPart_, cNoPart_, cMt_, cIsi_, cNeg_, cFn_, sNil_, sCons_, sIf_, sSet_, sPar_, sExpr_, sRet_, sRetN_, sRaise_, sBrk_, sCnt_, sStore_, fnOf_, iAny_, iR1_, iR2_, iEn_, gN_, gT_, gsN_, gsC_, stepS_, cYes_, lcF_, bT, iP, isTy, tyName, opTup, opLst, opAdd, opII, cDivB, opMul, opOrd, opEq, kD_nn, kD_ii, kD_bb, kD_ss, kD_ni, kD_nb, kD_ns, kD_in, kD_bn, kD_sn, kD_is, kD_si, kD_bs, kD_sb, kD_tuple1, kD_tuple2, kD_list1, kD_list2, kD_ib, kD_bi, opIsN, opIx, opSl, one, fLen, fInt, fAbs, fTup, fList, see, hold, toD, adopt, Rs.bind, Rs.thenS, opStore, expo, itmOf, wipeR, mAppend, mExtend, sAsg_, List.mapM_cons, List.mapM_nil, Option.bind_eq_bind, Option.bind_some, Option.pure_def, List.append_assoc, sz0, sy0, sz1, sy1, sz2, sy2, sz3, sy3, sz4, sy4, sz5, sy5, sz6, sy6, sz7, sy7, sz8, sy8, sz9, sy9, sz10, sy10, sz11, sy11, sz12, sy12, sz13, sy13, sz14, sy14, sz15, sy15, sz16, sy16, sz17, sy17, sz18, sy18, sz19, sy19, sz20, sy20, sz21, sy21, sz22, sy22, sz23, sy23, sz24, sy24, sz25, sy25, sz26, sy26, sz27, sy27, sz28, sy28, sz29, sy29, sz30, sy30, sz31, sy31, sz32, sy32, sz33, sy33, sz34, sy34, sz35, sy35, sz36, sy36, sz37, sy37, sz38, sy38, sz39, sy39, sz40, sy40, sPar3_, iZp_, cIsE_, zipOf, isL, opRepT, opIsB, fMax2, fMin2, mCountB, mIndexB, bools0, bools1, List.getElem?_cons_zero, List.getElem?_cons_succ, List.map_cons, List.map_nil, List.length_cons, List.length_nil, List.cons_append, List.nil_append, List.replicate_succ, List.replicate_zero, List.set_cons_zero, List.set_cons_succ, Nat.zero_add, Nat.reduceAdd, Nat.reduceSub, ↓reduceIte, reduceCtorEq, String.reduceBEq, kb_NoneType_int, kb_NoneType_bool, kb_NoneType_str, kb_NoneType_tuple, kb_NoneType_list, kb_NoneType_dict, kb_bool_int, kb_bool_bool, kb_bool_str, kb_bool_tuple, kb_bool_list, kb_bool_dict, kb_int_int, kb_int_bool, kb_int_str, kb_int_tuple, kb_int_list, kb_int_dict, kb_str_int, kb_str_bool, kb_str_str, kb_str_tuple, kb_str_list, kb_str_dict, kb_list_int, kb_list_bool, kb_list_str, kb_list_tuple, kb_list_list, kb_list_dict, kb_tuple_int, kb_tuple_bool, kb_tuple_str, kb_tuple_tuple, kb_tuple_list, kb_tuple_dict, kb_dict_int, kb_dict_bool, kb_dict_str, kb_dict_tuple, kb_dict_list, kb_dict_dict, String.reduceEq, Int.reduceLT, Int.reduceLE, Int.reduceNeg, Int.reducePow, Nat.reducePow, Int.reduceToNat, Nat.reduceLT, Nat.reduceLeDiff, decide_true, decide_false, and_self, and_true, true_and, or_true, true_or, or_false, false_or, Bool.not_true, Bool.not_false, Bool.true_eq_false, Bool.false_eq_true, Option.map_some, Option.map_none, A, B1, B2, q1, opIsN]
    rw [if_pos q2]
    simp only [cV_, cK_, cBin_, cCall_, cCons_, cNil_, cH_, cD_, cA_, cT_, cIf_, cAndT_, cOrT_, cNotT_, cAndV_, cOrV_, cNotV_, cChain_, cSl_, cPart_, cNoPart_, cMt_, cIsi_, cNeg_, cFn_, sNil_, sCons_, sIf_, sSet_, sPar_, sExpr_, sRet_, sRetN_, sRaise_, sBrk_, sCnt_, sStore_, fnOf_, iAny_, iR1_, iR2_, iEn_, gN_, gT_, gsN_, gsC_, stepS_, cYes_, lcF_, bT, iP, isTy, tyName, opTup, opLst, opAdd, opII, cDivB, opMul, opOrd, opEq, kD_nn, kD_ii, kD_bb, kD_ss, kD_ni, kD_nb, kD_ns, kD_in, kD_bn, kD_sn, kD_is, kD_si, kD_bs, kD_sb, kD_tuple1, kD_tuple2, kD_list1, kD_list2, kD_ib, kD_bi, opIsN, opIx, opSl, one, fLen, fInt, fAbs, fTup, fList, see, hold, toD, adopt, Rs.bind, Rs.thenS, opStore, expo, itmOf, wipeR, mAppend, mExtend, sAsg_, List.mapM_cons, List.mapM_nil, Option.bind_eq_bind, Option.bind_some, Option.pure_def, List.append_assoc, sz0, sy0, sz1, sy1, sz2, sy2, sz3, sy3, sz4, sy4, sz5, sy5, sz6, sy6, sz7, sy7, sz8, sy8, sz9, sy9, sz10, sy10, sz11, sy11, sz12, sy12, sz13, sy13, sz14, sy14, sz15, sy15, sz16, sy16, sz17, sy17, sz18, sy18, sz19, sy19, sz20, sy20, sz21, sy21, sz22, sy22, sz23, sy23, sz24, sy24, sz25, sy25, sz26, sy26, sz27, sy27, sz28, sy28, sz29, sy29, sz30, sy30, sz31, sy31, sz32, sy32, sz33, sy33, sz34, sy34, sz35, sy35, sz36, sy36, sz37, sy37, sz38, sy38, sz39, sy39, sz40, sy40, sPar3_, iZp_, cIsE_, zipOf, isL, opRepT, opIsB, fMax2, fMin2, mCountB, mIndexB, bools0, bools1, List.getElem?_cons_zero, List.getElem?_cons_succ, List.map_cons, List.map_nil, List.length_cons, List.length_nil, List.cons_append, List.nil_append, List.replicate_succ, List.replicate_zero, List.set_cons_zero, List.set_cons_succ, Nat.zero_add, Nat.reduceAdd, Nat.reduceSub, ↓reduceIte, reduceCtorEq, String.reduceBEq, kb_NoneType_int, kb_NoneType_bool, kb_NoneType_str, kb_NoneType_tuple, kb_NoneType_list, kb_NoneType_dict, kb_bool_int, kb_bool_bool, kb_bool_str, kb_bool_tuple, kb_bool_list, kb_bool_dict, kb_int_int, kb_int_bool, kb_int_str, kb_int_tuple, kb_int_list, kb_int_dict, kb_str_int, kb_str_bool, kb_str_str, kb_str_tuple, kb_str_list, kb_str_dict, kb_list_int, kb_list_bool, kb_list_str, kb_list_tuple, kb_list_list, kb_list_dict, kb_tuple_int, kb_tuple_bool, kb_tuple_str, kb_tuple_tuple, kb_tuple_list, kb_tuple_dict, kb_dict_int, kb_dict_bool, kb_dict_str, kb_dict_tuple, kb_dict_list, kb_dict_dict, String.reduceEq, Int.reduceLT, Int.reduceLE, Int.reduceNeg, Int.reducePow, Nat.reducePow, Int.reduceToNat, Nat.reduceLT, Nat.reduceLeDiff, decide_true, decide_false, and_self, and_true, true_and, or_true, true_or, or_false, false_or, Bool.not_true, Bool.not_false, Bool.true_eq_false, Bool.false_eq_true, Option.map_some, Option.map_none, B2, opIsN]
theorem fl4_core {k : SC} {Kd Rd X : D} {F : Int} {z0 z1 z2 z6 z7 z8 z9 z10 z11 z12 z13 z14 z15 y12 y14 : Option R} {μ : Mem} (e : sFor (iR1 (cH (cBin opAdd (cH (cCall (one fLen) (cCons (cV 4) cNil))) (cK (.int 1))))) (gN 14) bodyH [z0, z1, z2, some (.d Kd), some (.d Rd), some (.d (.int F)), z6, z7, z8, z9, z10, z11, some (.d (.int 0)), some (.c μ.length), z14, z15] (μ ++ [.lst []]) =
      .nx [z0, z1, z2, some (.d Kd), some (.d Rd), some (.d (.int F)), z6, z7, z8, z9, z10, z11, y12, some (.c μ.length), y14, z15] (μ ++ [.lst (match X with | .tuple xs => xs | _ => [])])) (xs : List D) (hX : X = .tuple xs) (B : ∀ μ, F_can_burst [.d Kd, .d Rd, .d (.int F)] μ = .ok (.d X) μ) (q1 : PyData.eqv X X = true) (q2 : SeqAt.shaped X = true) :
    fl4 k [z0, z1, z2, some (.d Kd), some (.d Rd), some (.d (.int F)), z6, z7, z8, z9, z10, z11, z12, z13, z14, z15] μ = k [z0, z1, z2, some (.d Kd), some (.d Rd), some (.d (.int F)), z6, z7, z8, z9, z10, z11, y12, some (.c μ.length), y14, z15] (μ ++ [.lst xs]) := by
  subst hX
  simp only [fl4, cV_, cK_, cBin_, cCall_, cCons_, cNil_, cH_, cD_, cA_, cT_, cIf_, cAndT_, cOrT_, cNotT_, cAndV_, cOrV_, cNotV_, cChain_, cSl_, cPart_, cNoPart_, cMt_, cIsi_, cNeg_, cFn_, sNil_, sCons_, sIf_, sSet_, sPar_, sExpr_, sRet_, sRetN_, sRaise_, sBrk_, sCnt_, sStore_, fnOf_, iAny_, iR1_, iR2_, iEn_, gN_, gT_, gsN_, gsC_, stepS_, cYes_, lcF_, bT, iP, isTy, tyName, opTup, opLst, opAdd, opII, cDivB, opMul, opOrd, opEq, kD_nn, kD_ii, kD_bb, kD_ss, kD_ni, kD_nb, kD_ns, kD_in, kD_bn, kD_sn, kD_is, kD_si, kD_bs, kD_sb, kD_tuple1, kD_tuple2, kD_list1, kD_list2, kD_ib, kD_bi, opIsN, opIx, opSl, one, fLen, fInt, fAbs, fTup, fList, see, hold, toD, adopt, Rs.bind, Rs.thenS, opStore, expo, itmOf, wipeR, mAppend, mExtend, sAsg_, List.mapM_cons, List.mapM_nil, Option.bind_eq_bind, Option.bind_some, Option.pure_def, List.append_assoc, sz0, sy0, sz1, sy1, sz2, sy2, sz3, sy3, sz4, sy4, sz5, sy5, sz6, sy6, sz7, sy7, sz8, sy8, sz9, sy9, sz10, sy10, sz11, sy11, sz12, sy12, sz13, sy13, sz14, sy14, sz15, sy15, sz16, sy16, sz17, sy17, sz18, sy18, sz19, sy19, sz20, sy20, sz21, sy21, sz22, sy22, sz23, sy23, sz24, sy24, sz25, sy25, sz26, sy26, sz27, sy27, sz28, sy28, sz29, sy29, sz30, sy30, sz31, sy31, sz32, sy32, sz33, sy33, sz34, sy34, sz35, sy35, sz36, sy36, sz37, sy37, sz38, sy38, sz39, sy39, sz40, sy40, sPar3_, iZp_, cIsE_, zipOf, isL, opRepT, opIsB, fMax2, fMin2, mCountB, mIndexB, bools0, bools1, List.getElem?_cons_zero, List.getElem?_cons_succ, List.map_cons, List.map_nil, List.length_cons, List.length_nil, List.cons_append, List.nil_append, List.replicate_succ, List.replicate_zero, List.set_cons_zero, List.set_cons_succ, Nat.zero_add, Nat.reduceAdd, Nat.reduceSub, ↓reduceIte, reduceCtorEq, String.reduceBEq, kb_NoneType_int, kb_NoneType_bool, kb_NoneType_str, kb_NoneType_tuple, kb_NoneType_list, kb_NoneType_dict, kb_bool_int, kb_bool_bool, kb_bool_str, kb_bool_tuple, kb_bool_list, kb_bool_dict, kb_int_int, kb_int_bool, kb_int_str, kb_int_tuple, kb_int_list, kb_int_dict, kb_str_int, kb_str_bool, kb_str_str, kb_str_tuple, kb_str_list, kb_str_dict, kb_list_int, kb_list_bool, kb_list_str, kb_list_tuple, kb_list_list, kb_list_dict, kb_tuple_int, kb_tuple_bool, kb_tuple_str, kb_tuple_tuple, kb_tuple_list, kb_tuple_dict, kb_dict_int, kb_dict_bool, kb_dict_str, kb_dict_tuple, kb_dict_list, kb_dict_dict, String.reduceEq, Int.reduceLT, Int.reduceLE, Int.reduceNeg, Int.reducePow, Nat.reducePow, Int.reduceToNat, Nat.reduceLT, Nat.reduceLeDiff, decide_true, decide_false, and_self, and_true, true_and, or_true, true_or, or_false, false_or, Bool.not_true, Bool.not_false, Bool.true_eq_false, Bool.false_eq_true, Option.map_some, Option.map_none, e, B, one0, q1, q2]
theorem fl5_core {Kd : D} {ls : List Int} {r : List D} {F N x r0 : Int} {z0 z2 z4 z6 z7 z8 z9 z10 z11 z12 z13 z14 z15 : Option R} {μ μ1 : Mem} (hK : Kd = .tuple (.tuple (ls.map .int) :: r)) (e1 : F__law_draw [.c 0, .d (.int 4)] μ = .ok (.d (.int r0)) μ1) (hn : 1 + r0 = N) (n0 : 0 < N) (n1 : N < 1073741824) (B : ∀ μ, F_loss_of [.d Kd, .d (.int F), .d (.int N)] μ = .ok (.d (.int x)) μ) (hix : L2.atI (ls.map PyData.int) ((F + N - 1) / N) = some (.int x)) :
    fl5 [z0, some (.c 0), z2, some (.d Kd), z4, some (.d (.int F)), z6, z7, z8, z9, z10, z11, z12, z13, z14, z15] μ =
      .nx [z0, some (.c 0), z2, some (.d Kd), z4, some (.d (.int F)), z6, z7, z8, z9, z10, z11, z12, z13, z14, some (.d (.int N))] μ1 := by
  have cd : decide (0 < N ∧ N < 1073741824) = true := decide_eq_true ⟨n0, n1⟩
  have rf : PyData.eqv (.int x) (.int x) = true := by simp [PyData.eqv]
  subst hK
  simp only [fl5, cV_, cK_, cBin_, cCall_, cCons_, cNil_, cH_, cD_, cA_, cT_, cIf_, cAndT_, cOrT_, cNotT_, cAndV_, cOrV_, cNotV_, cChain_, cSl_, cPart_, cNoPart_, cMt_, cIsi_, cNeg_, cFn_, sNil_, sCons_, sIf_, sSet_, sPar_, sExpr_, sRet_, sRetN_, sRaise_, sBrk_, sCnt_, sStore_, fnOf_, iAny_, iR1_, iR2_, iEn_, gN_, gT_, gsN_, gsC_, stepS_, cYes_, lcF_, bT, iP, isTy, tyName, opTup, opLst, opAdd, opII, cDivB, opMul, opOrd, opEq, kD_nn, kD_ii, kD_bb, kD_ss, kD_ni, kD_nb, kD_ns, kD_in, kD_bn, kD_sn, kD_is, kD_si, kD_bs, kD_sb, kD_tuple1, kD_tuple2, kD_list1, kD_list2, kD_ib, kD_bi, opIsN, opIx, opSl, one, fLen, fInt, fAbs, fTup, fList, see, hold, toD, adopt, Rs.bind, Rs.thenS, opStore, expo, itmOf, wipeR, mAppend, mExtend, sAsg_, List.mapM_cons, List.mapM_nil, Option.bind_eq_bind, Option.bind_some, Option.pure_def, List.append_assoc, sz0, sy0, sz1, sy1, sz2, sy2, sz3, sy3, sz4, sy4, sz5, sy5, sz6, sy6, sz7, sy7, sz8, sy8, sz9, sy9, sz10, sy10, sz11, sy11, sz12, sy12, sz13, sy13, sz14, sy14, sz15, sy15, sz16, sy16, sz17, sy17, sz18, sy18, sz19, sy19, sz20, sy20, sz21, sy21, sz22, sy22, sz23, sy23, sz24, sy24, sz25, sy25, sz26, sy26, sz27, sy27, sz28, sy28, sz29, sy29, sz30, sy30, sz31, sy31, sz32, sy32, sz33, sy33, sz34, sy34, sz35, sy35, sz36, sy36, sz37, sy37, sz38, sy38, sz39, sy39, sz40, sy40, sPar3_, iZp_, cIsE_, zipOf, isL, opRepT, opIsB, fMax2, fMin2, mCountB, mIndexB, bools0, bools1, List.getElem?_cons_zero, List.getElem?_cons_succ, List.map_cons, List.map_nil, List.length_cons, List.length_nil, List.cons_append, List.nil_append, List.replicate_succ, List.replicate_zero, List.set_cons_zero, List.set_cons_succ, Nat.zero_add, Nat.reduceAdd, Nat.reduceSub, ↓reduceIte, reduceCtorEq, String.reduceBEq, kb_NoneType_int, kb_NoneType_bool, kb_NoneType_str, kb_NoneType_tuple, kb_NoneType_list, kb_NoneType_dict, kb_bool_int, kb_bool_bool, kb_bool_str, kb_bool_tuple, kb_bool_list, kb_bool_dict, kb_int_int, kb_int_bool, kb_int_str, kb_int_tuple, kb_int_list, kb_int_dict, kb_str_int, kb_str_bool, kb_str_str, kb_str_tuple, kb_str_list, kb_str_dict, kb_list_int, kb_list_bool, kb_list_str, kb_list_tuple, kb_list_list, kb_list_dict, kb_tuple_int, kb_tuple_bool, kb_tuple_str, kb_tuple_tuple, kb_tuple_list, kb_tuple_dict, kb_dict_int, kb_dict_bool, kb_dict_str, kb_dict_tuple, kb_dict_list, kb_dict_dict, String.reduceEq, Int.reduceLT, Int.reduceLE, Int.reduceNeg, Int.reducePow, Nat.reducePow, Int.reduceToNat, Nat.reduceLT, Nat.reduceLeDiff, decide_true, decide_false, and_self, and_true, true_and, or_true, true_or, or_false, false_or, Bool.not_true, Bool.not_false, Bool.true_eq_false, Bool.false_eq_true, Option.map_some, Option.map_none, e1, hn, B, ix0, cd, hix, rf]
theorem fl4_run {k : SC} {ls gs rs : List Int} {a b lo g : Int} {f : Nat} {z0 z1 z2 z6 z7 z8 z9 z10 z11 z12 z13 z14 z15 : Option R} {μ : Mem} (hkit : ∀ μ, F_is_kit [.d (kitD ls gs a b)] μ = .ok (.d (.bool true)) μ) (hnr : nd2 (.tuple (rs.map .int))) (hrb : riseB (.tuple (rs.map .int)) = true)
    (hf : f < ls.length) (hl : ls[f]? = some lo) (hg : gs[f]? = some g) (h3 : rs.length ≤ 20) :
    ∃ y12 y14, fl4 k [z0, z1, z2, some (.d (kitD ls gs a b)), some (.d (.tuple (rs.map .int))), some (.d (.int (f : Int))), z6, z7, z8, z9, z10, z11, z12, z13, z14, z15] μ =
      k [z0, z1, z2, some (.d (kitD ls gs a b)), some (.d (.tuple (rs.map .int))), some (.d (.int (f : Int))), z6, z7, z8, z9, z10, z11, y12, some (.c μ.length), y14, z15] (μ ++ [.lst (burstD rs lo g b)]) := by
  have L0 : ∀ μ, F_check_line_of [.d (kitD ls gs a b), .d (.tuple (rs.map .int)), .d (.int (f : Int))] μ = .ok (.d .none) μ := fun μ => by
    rw [line_flow hkit hnr hrb rfl, if_pos (within_yes (by omega))]
  have B := can_burst_ok L0 hl hg (by omega)
  obtain ⟨y12, y14, e⟩ := spots_run (ls := ls) (gs := gs) (rs := rs) (a := a) (b := b) (F := (f : Int)) (lo := lo) (g := g) (z0 := z0) (z1 := z1) (z2 := z2) (z6 := z6) (z7 := z7) (z8 := z8) (z9 := z9) (z10 := z10) (z11 := z11) (z14 := z14) (z15 := z15) (μ := μ) (atI_ints hl) (atI_ints hg) (by omega)
  obtain ⟨q1, q2⟩ := ints_refl (burstI rs lo g b)
  rw [← burst_int] at q1 q2
  exact ⟨y12, y14, fl4_core (X := .tuple (burstD rs lo g b)) e _ rfl B q1 q2⟩
theorem div_small {f n : Nat} (h1 : 1 ≤ n) (h4 : n ≤ 4) : (f + n - 1) / n ≤ f := by
  have : n = 1 ∨ n = 2 ∨ n = 3 ∨ n = 4 := by omega
  rcases this with rfl | rfl | rfl | rfl <;> omega
theorem fl5_run {ls gs : List Int} {a b : Int} {f : Nat} {z0 z2 z4 z6 z7 z8 z9 z10 z11 z12 z13 z14 z15 : Option R} {μ : Mem} (hM : HM μ) (hkit : ∀ μ, F_is_kit [.d (kitD ls gs a b)] μ = .ok (.d (.bool true)) μ) (hf : f < ls.length) :
    ∃ y15 μ', fl5 [z0, some (.c 0), z2, some (.d (kitD ls gs a b)), z4, some (.d (.int (f : Int))), z6, z7, z8, z9, z10, z11, z12, z13, z14, z15] μ =
      .nx [z0, some (.c 0), z2, some (.d (kitD ls gs a b)), z4, some (.d (.int (f : Int))), z6, z7, z8, z9, z10, z11, z12, z13, z14, y15] μ' ∧ HM μ' := by
  obtain ⟨r, μ1, e1, hM1, _, r0, r1⟩ := draw0 (m := 4) hM (by decide) (by decide)
  obtain ⟨n, hn⟩ : ∃ n : Nat, 1 + r = (n : Int) := ⟨(1 + r).toNat, by omega⟩
  have hd := div_small (f := f) (n := n) (by omega) (by omega)
  have hx : ls[(f + n - 1) / n]? = some (ls[(f + n - 1) / n]'(by omega)) := List.getElem?_eq_getElem (by omega)
  have B := loss_ok hkit hf (by omega) (by omega) hx
  have hix := atI_ints hx
  have e : (((f + n - 1) / n : Nat) : Int) = ((f : Int) + (n : Int) - 1) / (n : Int) := by
    have e0 : (f : Int) + (n : Int) - 1 = ((f + n - 1 : Nat) : Int) := by omega
    rw [e0]
    exact Int.natCast_ediv _ _
  rw [e] at hix
  have n0 : (0 : Int) < (n : Int) := by omega
  have n1 : (n : Int) < 1073741824 := by omega
  exact ⟨_, μ1, fl5_core (ls := ls) (r := [.tuple (gs.map .int), .int a, .int b]) rfl e1 hn n0 n1 B hix, hM1⟩
theorem flow_run {ls gs rs : List Int} {a b : Int} {f : Nat} {z0 z2 z5 z6 z7 z8 z9 z10 z11 z12 z13 z14 z15 : Option R} {μ : Mem} (hM : HM μ) (hkit : ∀ μ, F_is_kit [.d (kitD ls gs a b)] μ = .ok (.d (.bool true)) μ) (hnr : nd2 (.tuple (rs.map .int))) (hrb : riseB (.tuple (rs.map .int)) = true)
    (hf : f < ls.length) (hlg : ls.length = gs.length) (h3 : rs.length ≤ 20) (h30 : 1 ≤ rs.length) :
    ∃ y6 y7 y8 y9 y10 y11 y12 y13 y14 y15 μ', stepS (gN 5) bodyF (.int (f : Int)) [z0, some (.c 0), z2, some (.d (kitD ls gs a b)), some (.d (.tuple (rs.map .int))), z5, z6, z7, z8, z9, z10, z11, z12, z13, z14, z15] μ =
      .nx [z0, some (.c 0), z2, some (.d (kitD ls gs a b)), some (.d (.tuple (rs.map .int))), some (.d (.int (f : Int))), y6, y7, y8, y9, y10, y11, y12, y13, y14, y15] μ' ∧ HM μ' := by
  have hl : ls[f]? = some ls[f] := List.getElem?_eq_getElem hf
  have hg : gs[f]? = some (gs[f]'(by omega)) := List.getElem?_eq_getElem (by omega)
  have hml : (((rs.map PyData.int).length : Nat) : Int) = ((rs.length : Nat) : Int) := by rw [List.length_map]
  obtain ⟨r1, μ1, e1, hM1, _, r10, r11⟩ := draw0 (m := ((rs.length : Nat) : Int)) hM (by omega) (by omega)
  obtain ⟨i, rfl⟩ : ∃ i : Nat, r1 = (i : Int) := ⟨r1.toNat, by omega⟩
  obtain ⟨r2, μ2, e2, hM2, _, r20, r21⟩ := draw0 (m := ((rs.length : Nat) : Int) - (i : Int)) hM1 (by omega) (by omega)
  obtain ⟨due, μ3, e3, hM3, _, d0, d1⟩ := draw0 (m := 20) hM2 (by decide) (by decide)
  obtain ⟨j, hj⟩ : ∃ j : Nat, (i : Int) + 1 + r2 = (j : Int) := ⟨((i : Int) + 1 + r2).toNat, by omega⟩
  have A := asked_ok (ls := ls) (gs := gs) (a := a) (b := b) (F := (f : Int)) (lo := ls[f]) (r := .tuple (rs.map .int)) (atI_ints hl)
  have s1 : fl1 [z0, some (.c 0), z2, some (.d (kitD ls gs a b)), some (.d (.tuple (rs.map .int))), some (.d (.int (f : Int))), z6, z7, z8, z9, z10, z11, z12, z13, z14, z15] μ = .nx [z0, some (.c 0), z2, some (.d (kitD ls gs a b)), some (.d (.tuple (rs.map .int))), some (.d (.int (f : Int))), some (.d (.tuple [kitD ls gs a b, .tuple (rs.map .int), .int (f : Int), .int ls[f]])), some (.d (.int (i : Int))), z8, z9, z10, z11, z12, z13, z14, z15] μ1 := by
    simp only [fl1, cV_, cK_, cBin_, cCall_, cCons_, cNil_, cH_, cD_, cA_, cT_, cIf_, cAndT_, cOrT_, cNotT_, cAndV_, cOrV_, cNotV_, cChain_, cSl_, cPart_, cNoPart_, cMt_, cIsi_, cNeg_, cFn_, sNil_, sCons_, sIf_, sSet_, sPar_, sExpr_, sRet_, sRetN_, sRaise_, sBrk_, sCnt_, sStore_, fnOf_, iAny_, iR1_, iR2_, iEn_, gN_, gT_, gsN_, gsC_, stepS_, cYes_, lcF_, bT, iP, isTy, tyName, opTup, opLst, opAdd, opII, cDivB, opMul, opOrd, opEq, kD_nn, kD_ii, kD_bb, kD_ss, kD_ni, kD_nb, kD_ns, kD_in, kD_bn, kD_sn, kD_is, kD_si, kD_bs, kD_sb, kD_tuple1, kD_tuple2, kD_list1, kD_list2, kD_ib, kD_bi, opIsN, opIx, opSl, one, fLen, fInt, fAbs, fTup, fList, see, hold, toD, adopt, Rs.bind, Rs.thenS, opStore, expo, itmOf, wipeR, mAppend, mExtend, sAsg_, List.mapM_cons, List.mapM_nil, Option.bind_eq_bind, Option.bind_some, Option.pure_def, List.append_assoc, sz0, sy0, sz1, sy1, sz2, sy2, sz3, sy3, sz4, sy4, sz5, sy5, sz6, sy6, sz7, sy7, sz8, sy8, sz9, sy9, sz10, sy10, sz11, sy11, sz12, sy12, sz13, sy13, sz14, sy14, sz15, sy15, sz16, sy16, sz17, sy17, sz18, sy18, sz19, sy19, sz20, sy20, sz21, sy21, sz22, sy22, sz23, sy23, sz24, sy24, sz25, sy25, sz26, sy26, sz27, sy27, sz28, sy28, sz29, sy29, sz30, sy30, sz31, sy31, sz32, sy32, sz33, sy33, sz34, sy34, sz35, sy35, sz36, sy36, sz37, sy37, sz38, sy38, sz39, sy39, sz40, sy40, sPar3_, iZp_, cIsE_, zipOf, isL, opRepT, opIsB, fMax2, fMin2, mCountB, mIndexB, bools0, bools1, List.getElem?_cons_zero, List.getElem?_cons_succ, List.map_cons, List.map_nil, List.length_cons, List.length_nil, List.cons_append, List.nil_append, List.replicate_succ, List.replicate_zero, List.set_cons_zero, List.set_cons_succ, Nat.zero_add, Nat.reduceAdd, Nat.reduceSub, ↓reduceIte, reduceCtorEq, String.reduceBEq, kb_NoneType_int, kb_NoneType_bool, kb_NoneType_str, kb_NoneType_tuple, kb_NoneType_list, kb_NoneType_dict, kb_bool_int, kb_bool_bool, kb_bool_str, kb_bool_tuple, kb_bool_list, kb_bool_dict, kb_int_int, kb_int_bool, kb_int_str, kb_int_tuple, kb_int_list, kb_int_dict, kb_str_int, kb_str_bool, kb_str_str, kb_str_tuple, kb_str_list, kb_str_dict, kb_list_int, kb_list_bool, kb_list_str, kb_list_tuple, kb_list_list, kb_list_dict, kb_tuple_int, kb_tuple_bool, kb_tuple_str, kb_tuple_tuple, kb_tuple_list, kb_tuple_dict, kb_dict_int, kb_dict_bool, kb_dict_str, kb_dict_tuple, kb_dict_list, kb_dict_dict, String.reduceEq, Int.reduceLT, Int.reduceLE, Int.reduceNeg, Int.reducePow, Nat.reducePow, Int.reduceToNat, Nat.reduceLT, Nat.reduceLeDiff, decide_true, decide_false, and_self, and_true, true_and, or_true, true_or, or_false, false_or, Bool.not_true, Bool.not_false, Bool.true_eq_false, Bool.false_eq_true, Option.map_some, Option.map_none, A, hml, e1]
  have s2 : fl2 [z0, some (.c 0), z2, some (.d (kitD ls gs a b)), some (.d (.tuple (rs.map .int))), some (.d (.int (f : Int))), some (.d (.tuple [kitD ls gs a b, .tuple (rs.map .int), .int (f : Int), .int ls[f]])), some (.d (.int (i : Int))), z8, z9, z10, z11, z12, z13, z14, z15] μ1 = .nx [z0, some (.c 0), z2, some (.d (kitD ls gs a b)), some (.d (.tuple (rs.map .int))), some (.d (.int (f : Int))), some (.d (.tuple [kitD ls gs a b, .tuple (rs.map .int), .int (f : Int), .int ls[f]])), some (.d (.int (i : Int))), some (.d (.int (j : Int))), some (.d (.int due)), z10, z11, z12, z13, z14, z15] μ3 := by
    simp only [fl2, cV_, cK_, cBin_, cCall_, cCons_, cNil_, cH_, cD_, cA_, cT_, cIf_, cAndT_, cOrT_, cNotT_, cAndV_, cOrV_, cNotV_, cChain_, cSl_, cPart_, cNoPart_, cMt_, cIsi_, cNeg_, cFn_, sNil_, sCons_, sIf_, sSet_, sPar_, sExpr_, sRet_, sRetN_, sRaise_, sBrk_, sCnt_, sStore_, fnOf_, iAny_, iR1_, iR2_, iEn_, gN_, gT_, gsN_, gsC_, stepS_, cYes_, lcF_, bT, iP, isTy, tyName, opTup, opLst, opAdd, opII, cDivB, opMul, opOrd, opEq, kD_nn, kD_ii, kD_bb, kD_ss, kD_ni, kD_nb, kD_ns, kD_in, kD_bn, kD_sn, kD_is, kD_si, kD_bs, kD_sb, kD_tuple1, kD_tuple2, kD_list1, kD_list2, kD_ib, kD_bi, opIsN, opIx, opSl, one, fLen, fInt, fAbs, fTup, fList, see, hold, toD, adopt, Rs.bind, Rs.thenS, opStore, expo, itmOf, wipeR, mAppend, mExtend, sAsg_, List.mapM_cons, List.mapM_nil, Option.bind_eq_bind, Option.bind_some, Option.pure_def, List.append_assoc, sz0, sy0, sz1, sy1, sz2, sy2, sz3, sy3, sz4, sy4, sz5, sy5, sz6, sy6, sz7, sy7, sz8, sy8, sz9, sy9, sz10, sy10, sz11, sy11, sz12, sy12, sz13, sy13, sz14, sy14, sz15, sy15, sz16, sy16, sz17, sy17, sz18, sy18, sz19, sy19, sz20, sy20, sz21, sy21, sz22, sy22, sz23, sy23, sz24, sy24, sz25, sy25, sz26, sy26, sz27, sy27, sz28, sy28, sz29, sy29, sz30, sy30, sz31, sy31, sz32, sy32, sz33, sy33, sz34, sy34, sz35, sy35, sz36, sy36, sz37, sy37, sz38, sy38, sz39, sy39, sz40, sy40, sPar3_, iZp_, cIsE_, zipOf, isL, opRepT, opIsB, fMax2, fMin2, mCountB, mIndexB, bools0, bools1, List.getElem?_cons_zero, List.getElem?_cons_succ, List.map_cons, List.map_nil, List.length_cons, List.length_nil, List.cons_append, List.nil_append, List.replicate_succ, List.replicate_zero, List.set_cons_zero, List.set_cons_succ, Nat.zero_add, Nat.reduceAdd, Nat.reduceSub, ↓reduceIte, reduceCtorEq, String.reduceBEq, kb_NoneType_int, kb_NoneType_bool, kb_NoneType_str, kb_NoneType_tuple, kb_NoneType_list, kb_NoneType_dict, kb_bool_int, kb_bool_bool, kb_bool_str, kb_bool_tuple, kb_bool_list, kb_bool_dict, kb_int_int, kb_int_bool, kb_int_str, kb_int_tuple, kb_int_list, kb_int_dict, kb_str_int, kb_str_bool, kb_str_str, kb_str_tuple, kb_str_list, kb_str_dict, kb_list_int, kb_list_bool, kb_list_str, kb_list_tuple, kb_list_list, kb_list_dict, kb_tuple_int, kb_tuple_bool, kb_tuple_str, kb_tuple_tuple, kb_tuple_list, kb_tuple_dict, kb_dict_int, kb_dict_bool, kb_dict_str, kb_dict_tuple, kb_dict_list, kb_dict_dict, String.reduceEq, Int.reduceLT, Int.reduceLE, Int.reduceNeg, Int.reducePow, Nat.reducePow, Int.reduceToNat, Nat.reduceLT, Nat.reduceLeDiff, decide_true, decide_false, and_self, and_true, true_and, or_true, true_or, or_false, false_or, Bool.not_true, Bool.not_false, Bool.true_eq_false, Bool.false_eq_true, Option.map_some, Option.map_none, hml, e2, hj, e3]
  obtain ⟨y10, y11, s3⟩ := fl3_run (k := fl4 fl5) (ls := ls) (gs := gs) (rs := rs) (a := a) (b := b) (lo := ls[f]) (g := gs[f]'(by omega)) (due := due) (f := f) (i := i) (j := j) (z0 := z0) (z1 := some (.c 0)) (z2 := z2) (z10 := z10) (z11 := z11) (z12 := z12) (z13 := z13) (z14 := z14) (z15 := z15) (μ := μ3) hkit hnr hrb hf hl hg (by omega) (by omega) h3 d0 d1
  obtain ⟨y12, y14, s4⟩ := fl4_run (k := fl5) (ls := ls) (gs := gs) (rs := rs) (a := a) (b := b) (lo := ls[f]) (g := gs[f]'(by omega)) (f := f) (z0 := z0) (z1 := some (.c 0)) (z2 := z2) (z6 := some (.d (.tuple [kitD ls gs a b, .tuple (rs.map .int), .int (f : Int), .int ls[f]]))) (z7 := some (.d (.int (i : Int)))) (z8 := some (.d (.int (j : Int)))) (z9 := some (.d (.int due))) (z10 := y10) (z11 := y11) (z12 := z12) (z13 := z13) (z14 := z14) (z15 := z15) (μ := μ3) hkit hnr hrb hf hl hg h3
  obtain ⟨y15, μ', s5, hM'⟩ := fl5_run (ls := ls) (gs := gs) (a := a) (b := b) (f := f) (z0 := z0) (z2 := z2) (z4 := some (.d (.tuple (rs.map .int)))) (z6 := some (.d (.tuple [kitD ls gs a b, .tuple (rs.map .int), .int (f : Int), .int ls[f]]))) (z7 := some (.d (.int (i : Int)))) (z8 := some (.d (.int (j : Int)))) (z9 := some (.d (.int due))) (z10 := y10) (z11 := y11) (z12 := y12) (z13 := some (.c μ3.length)) (z14 := y14) (z15 := z15) (hM3.app [.lst (burstD rs ls[f] (gs[f]'(by omega)) b)]) hkit hf
  exact ⟨_, _, _, _, _, _, _, _, _, _, μ', (show stepS (gN 5) bodyF (.int (f : Int)) [z0, some (.c 0), z2, some (.d (kitD ls gs a b)), some (.d (.tuple (rs.map .int))), z5, z6, z7, z8, z9, z10, z11, z12, z13, z14, z15] μ = bodyF [z0, some (.c 0), z2, some (.d (kitD ls gs a b)), some (.d (.tuple (rs.map .int))), some (.d (.int (f : Int))), z6, z7, z8, z9, z10, z11, z12, z13, z14, z15] μ from rfl).trans ((sCons_nx s1).trans ((sCons_nx s2).trans (s3.trans (s4.trans s5)))), hM'⟩
end L28
set_option maxRecDepth 100000
set_option maxHeartbeats 2000000
namespace L28
open PySem PySem.Spec PyProof.Rows L2 Em
theorem kit0_of {ls gs : List Int} {a b : Int} : L2.atI [PyData.tuple (ls.map .int), .tuple (gs.map .int), .int a, .int b] 0 = some (.tuple (ls.map .int)) := ix0 _ _
def bodyL : SC := (sCons (sPar 3 4 (cH (cFn 1 F__law_kit (cCons (cV 1) cNil))) (cH (cFn 2 F__law_rises (cCons (cV 1) (cCons (cK (.int 5)) cNil)))))
  (sCons (sIf (cT (cBin (opIsB true) (cH (cFn 1 F_is_kit (cCons (cV 3) cNil))) (cK (.bool true))))
  (sRet (cK (.bool false)))
  sNil)
  (sCons (sFor (iR1 (cH (cCall (one fLen) (cCons (cH (cBin opIx (cV 3) (cK (.int 0)))) cNil)))) (gN 5) bodyF)
  (sIf (cNotT (cT (cFn 3 F__law_refused_right (cCons (cV 1) (cCons (cV 3) (cCons (cV 4) cNil))))))
  (sRet (cK (.bool false)))
  sNil))))
theorem flows_run {ls gs rs : List Int} {a b : Int} {z0 z2 z5 z6 z7 z8 z9 z10 z11 z12 z13 z14 z15 : Option R} {μ : Mem} (hM : HM μ) (hkit : ∀ μ, F_is_kit [.d (kitD ls gs a b)] μ = .ok (.d (.bool true)) μ) (hnr : nd2 (.tuple (rs.map .int))) (hrb : riseB (.tuple (rs.map .int)) = true)
    (hlg : ls.length = gs.length) (hl6 : ls.length ≤ 6) (h3 : rs.length ≤ 20) (h30 : 1 ≤ rs.length) :
    ∃ y5 y6 y7 y8 y9 y10 y11 y12 y13 y14 y15 μ', sFor (iR1 (cH (cCall (one fLen) (cCons (cH (cBin opIx (cV 3) (cK (.int 0)))) cNil)))) (gN 5) bodyF [z0, some (.c 0), z2, some (.d (kitD ls gs a b)), some (.d (.tuple (rs.map .int))), z5, z6, z7, z8, z9, z10, z11, z12, z13, z14, z15] μ =
      .nx [z0, some (.c 0), z2, some (.d (kitD ls gs a b)), some (.d (.tuple (rs.map .int))), y5, y6, y7, y8, y9, y10, y11, y12, y13, y14, y15] μ' ∧ HM μ' := by
  obtain ⟨ρ', μ', ef, y5, y6, y7, y8, y9, y10, y11, y12, y13, y14, y15, rfl, hM'⟩ := for_inv (b := stepS (gN 5) bodyF) (itm_rng 0 ls.length) (fun i ρ μ' => ∃ y5 y6 y7 y8 y9 y10 y11 y12 y13 y14 y15, ρ = [z0, some (.c 0), z2, some (.d (kitD ls gs a b)), some (.d (.tuple (rs.map .int))), y5, y6, y7, y8, y9, y10, y11, y12, y13, y14, y15] ∧ HM μ') (fun i d ρ μ' hd hI => by
    obtain ⟨y5, y6, y7, y8, y9, y10, y11, y12, y13, y14, y15, rfl, hM'⟩ := hI
    have hi : i < ls.length := by
      have := (List.getElem?_eq_some_iff.mp hd).1
      simpa [rngD] using this
    have hd' : d = .int (i : Int) := by
      unfold rngD at hd
      rw [List.getElem?_map, List.getElem?_range (by omega)] at hd
      simpa using hd.symm
    subst hd'
    obtain ⟨x6, x7, x8, x9, x10, x11, x12, x13, x14, x15, μ2, e, h2⟩ := flow_run (ls := ls) (gs := gs) (rs := rs) (a := a) (b := b) (f := i) (z0 := z0) (z2 := z2) (z5 := y5) (z6 := y6) (z7 := y7) (z8 := y8) (z9 := y9) (z10 := y10) (z11 := y11) (z12 := y12) (z13 := y13) (z14 := y14) (z15 := y15) hM' hkit hnr hrb hi hlg h3 h30
    exact ⟨_, _, e, _, _, _, _, _, _, _, _, _, _, _, rfl, h2⟩) (ρ := [z0, some (.c 0), z2, some (.d (kitD ls gs a b)), some (.d (.tuple (rs.map .int))), z5, z6, z7, z8, z9, z10, z11, z12, z13, z14, z15]) (μ := μ) ⟨_, _, _, _, _, _, _, _, _, _, _, rfl, hM⟩
  have hci : iR1 (cH (cCall (one fLen) (cCons (cH (cBin opIx (cV 3) (cK (.int 0)))) cNil))) [z0, some (.c 0), z2, some (.d (kitD ls gs a b)), some (.d (.tuple (rs.map .int))), z5, z6, z7, z8, z9, z10, z11, z12, z13, z14, z15] μ = .ok (.rng 0 1 ls.length) μ := by
    have e := iR1_ok (c := cH (cCall (one fLen) (cCons (cH (cBin opIx (cV 3) (cK (.int 0)))) cNil))) (ρ := [z0, some (.c 0), z2, some (.d (kitD ls gs a b)), some (.d (.tuple (rs.map .int))), z5, z6, z7, z8, z9, z10, z11, z12, z13, z14, z15]) (μ := μ) (μ' := μ) (J := (((ls.map PyData.int).length : Nat) : Int)) (by simp only [kitD, cV_, cK_, cBin_, cCall_, cCons_, cNil_, cH_, cD_, cA_, cT_, cIf_, cAndT_, cOrT_, cNotT_, cAndV_, cOrV_, cNotV_, cChain_, cSl_, cPart_, cNoPart_, cMt_, cIsi_, cNeg_, cFn_, sNil_, sCons_, sIf_, sSet_, sPar_, sExpr_, sRet_, sRetN_, sRaise_, sBrk_, sCnt_, sStore_, fnOf_, iAny_, iR1_, iR2_, iEn_, gN_, gT_, gsN_, gsC_, stepS_, cYes_, lcF_, bT, iP, isTy, tyName, opTup, opLst, opAdd, opII, cDivB, opMul, opOrd, opEq, kD_nn, kD_ii, kD_bb, kD_ss, kD_ni, kD_nb, kD_ns, kD_in, kD_bn, kD_sn, kD_is, kD_si, kD_bs, kD_sb, kD_tuple1, kD_tuple2, kD_list1, kD_list2, kD_ib, kD_bi, opIsN, opIx, opSl, one, fLen, fInt, fAbs, fTup, fList, see, hold, toD, adopt, Rs.bind, Rs.thenS, opStore, expo, itmOf, wipeR, mAppend, mExtend, sAsg_, List.mapM_cons, List.mapM_nil, Option.bind_eq_bind, Option.bind_some, Option.pure_def, List.append_assoc, sz0, sy0, sz1, sy1, sz2, sy2, sz3, sy3, sz4, sy4, sz5, sy5, sz6, sy6, sz7, sy7, sz8, sy8, sz9, sy9, sz10, sy10, sz11, sy11, sz12, sy12, sz13, sy13, sz14, sy14, sz15, sy15, sz16, sy16, sz17, sy17, sz18, sy18, sz19, sy19, sz20, sy20, sz21, sy21, sz22, sy22, sz23, sy23, sz24, sy24, sz25, sy25, sz26, sy26, sz27, sy27, sz28, sy28, sz29, sy29, sz30, sy30, sz31, sy31, sz32, sy32, sz33, sy33, sz34, sy34, sz35, sy35, sz36, sy36, sz37, sy37, sz38, sy38, sz39, sy39, sz40, sy40, sPar3_, iZp_, cIsE_, zipOf, isL, opRepT, opIsB, fMax2, fMin2, mCountB, mIndexB, bools0, bools1, List.getElem?_cons_zero, List.getElem?_cons_succ, List.map_cons, List.map_nil, List.length_cons, List.length_nil, List.cons_append, List.nil_append, List.replicate_succ, List.replicate_zero, List.set_cons_zero, List.set_cons_succ, Nat.zero_add, Nat.reduceAdd, Nat.reduceSub, ↓reduceIte, reduceCtorEq, String.reduceBEq, kb_NoneType_int, kb_NoneType_bool, kb_NoneType_str, kb_NoneType_tuple, kb_NoneType_list, kb_NoneType_dict, kb_bool_int, kb_bool_bool, kb_bool_str, kb_bool_tuple, kb_bool_list, kb_bool_dict, kb_int_int, kb_int_bool, kb_int_str, kb_int_tuple, kb_int_list, kb_int_dict, kb_str_int, kb_str_bool, kb_str_str, kb_str_tuple, kb_str_list, kb_str_dict, kb_list_int, kb_list_bool, kb_list_str, kb_list_tuple, kb_list_list, kb_list_dict, kb_tuple_int, kb_tuple_bool, kb_tuple_str, kb_tuple_tuple, kb_tuple_list, kb_tuple_dict, kb_dict_int, kb_dict_bool, kb_dict_str, kb_dict_tuple, kb_dict_list, kb_dict_dict, String.reduceEq, Int.reduceLT, Int.reduceLE, Int.reduceNeg, Int.reducePow, Nat.reducePow, Int.reduceToNat, Nat.reduceLT, Nat.reduceLeDiff, decide_true, decide_false, and_self, and_true, true_and, or_true, true_or, or_false, false_or, Bool.not_true, Bool.not_false, Bool.true_eq_false, Bool.false_eq_true, Option.map_some, Option.map_none, ix0]) (by omega) (by rw [List.length_map]; omega)
    rw [e, List.length_map]
    rfl
  exact ⟨_, _, _, _, _, _, _, _, _, _, _, μ', (sFor_eq (g := gN 5) (b := bodyF) (itm_rng 0 ls.length) hci).trans ef, hM'⟩
theorem body_core {Kd Rd : D} {z0 z2 z3 z4 z5 z6 z7 z8 z9 z10 z11 z12 z13 z14 z15 y5 y6 y7 y8 y9 y10 y11 y12 y13 y14 y15 : Option R} {μ μ1 μ2 μ3 μ4 : Mem} (e1 : F__law_kit [.c 0] μ = .ok (.d Kd) μ1) (e2 : F__law_rises [.c 0, .d (.int 5)] μ1 = .ok (.d Rd) μ2) (hkit : ∀ μ, F_is_kit [.d Kd] μ = .ok (.d (.bool true)) μ)
    (e3 : sFor (iR1 (cH (cCall (one fLen) (cCons (cH (cBin opIx (cV 3) (cK (.int 0)))) cNil)))) (gN 5) bodyF [z0, some (.c 0), z2, some (.d Kd), some (.d Rd), z5, z6, z7, z8, z9, z10, z11, z12, z13, z14, z15] μ2 = .nx [z0, some (.c 0), z2, some (.d Kd), some (.d Rd), y5, y6, y7, y8, y9, y10, y11, y12, y13, y14, y15] μ3)
    (e4 : F__law_refused_right [.c 0, .d Kd, .d Rd] μ3 = .ok (.d (.bool true)) μ4) : bodyL [z0, some (.c 0), z2, z3, z4, z5, z6, z7, z8, z9, z10, z11, z12, z13, z14, z15] μ = .nx [z0, some (.c 0), z2, some (.d Kd), some (.d Rd), y5, y6, y7, y8, y9, y10, y11, y12, y13, y14, y15] μ4 := by
  simp only [bodyL, cV_, cK_, cBin_, cCall_, cCons_, cNil_, cH_, cD_, cA_, cT_, cIf_, cAndT_, cOrT_, cNotT_, cAndV_, cOrV_, cNotV_, cChain_, cSl_, cPart_, cNoPart_, cMt_, cIsi_, cNeg_, cFn_, sNil_, sCons_, sIf_, sSet_, sPar_, sExpr_, sRet_, sRetN_, sRaise_, sBrk_, sCnt_, sStore_, fnOf_, iAny_, iR1_, iR2_, iEn_, gN_, gT_, gsN_, gsC_, stepS_, cYes_, lcF_, bT, iP, isTy, tyName, opTup, opLst, opAdd, opII, cDivB, opMul, opOrd, opEq, kD_nn, kD_ii, kD_bb, kD_ss, kD_ni, kD_nb, kD_ns, kD_in, kD_bn, kD_sn, kD_is, kD_si, kD_bs, kD_sb, kD_tuple1, kD_tuple2, kD_list1, kD_list2, kD_ib, kD_bi, opIsN, opIx, opSl, one, fLen, fInt, fAbs, fTup, fList, see, hold, toD, adopt, Rs.bind, Rs.thenS, opStore, expo, itmOf, wipeR, mAppend, mExtend, sAsg_, List.mapM_cons, List.mapM_nil, Option.bind_eq_bind, Option.bind_some, Option.pure_def, List.append_assoc, sz0, sy0, sz1, sy1, sz2, sy2, sz3, sy3, sz4, sy4, sz5, sy5, sz6, sy6, sz7, sy7, sz8, sy8, sz9, sy9, sz10, sy10, sz11, sy11, sz12, sy12, sz13, sy13, sz14, sy14, sz15, sy15, sz16, sy16, sz17, sy17, sz18, sy18, sz19, sy19, sz20, sy20, sz21, sy21, sz22, sy22, sz23, sy23, sz24, sy24, sz25, sy25, sz26, sy26, sz27, sy27, sz28, sy28, sz29, sy29, sz30, sy30, sz31, sy31, sz32, sy32, sz33, sy33, sz34, sy34, sz35, sy35, sz36, sy36, sz37, sy37, sz38, sy38, sz39, sy39, sz40, sy40, sPar3_, iZp_, cIsE_, zipOf, isL, opRepT, opIsB, fMax2, fMin2, mCountB, mIndexB, bools0, bools1, List.getElem?_cons_zero, List.getElem?_cons_succ, List.map_cons, List.map_nil, List.length_cons, List.length_nil, List.cons_append, List.nil_append, List.replicate_succ, List.replicate_zero, List.set_cons_zero, List.set_cons_succ, Nat.zero_add, Nat.reduceAdd, Nat.reduceSub, ↓reduceIte, reduceCtorEq, String.reduceBEq, kb_NoneType_int, kb_NoneType_bool, kb_NoneType_str, kb_NoneType_tuple, kb_NoneType_list, kb_NoneType_dict, kb_bool_int, kb_bool_bool, kb_bool_str, kb_bool_tuple, kb_bool_list, kb_bool_dict, kb_int_int, kb_int_bool, kb_int_str, kb_int_tuple, kb_int_list, kb_int_dict, kb_str_int, kb_str_bool, kb_str_str, kb_str_tuple, kb_str_list, kb_str_dict, kb_list_int, kb_list_bool, kb_list_str, kb_list_tuple, kb_list_list, kb_list_dict, kb_tuple_int, kb_tuple_bool, kb_tuple_str, kb_tuple_tuple, kb_tuple_list, kb_tuple_dict, kb_dict_int, kb_dict_bool, kb_dict_str, kb_dict_tuple, kb_dict_list, kb_dict_dict, String.reduceEq, Int.reduceLT, Int.reduceLE, Int.reduceNeg, Int.reducePow, Nat.reducePow, Int.reduceToNat, Nat.reduceLT, Nat.reduceLeDiff, decide_true, decide_false, and_self, and_true, true_and, or_true, true_or, or_false, false_or, Bool.not_true, Bool.not_false, Bool.true_eq_false, Bool.false_eq_true, Option.map_some, Option.map_none, e1, e2, hkit, e3, e4]
theorem body_run {z0 z2 z3 z4 z5 z6 z7 z8 z9 z10 z11 z12 z13 z14 z15 : Option R} {μ : Mem} (hM : HM μ) : ∃ y3 y4 y5 y6 y7 y8 y9 y10 y11 y12 y13 y14 y15 μ', bodyL [z0, some (.c 0), z2, z3, z4, z5, z6, z7, z8, z9, z10, z11, z12, z13, z14, z15] μ =
      .nx [z0, some (.c 0), z2, y3, y4, y5, y6, y7, y8, y9, y10, y11, y12, y13, y14, y15] μ' ∧ HM μ' := by
  obtain ⟨ls, gs, a, b, μ1, e1, hM1, hk, hlg, l2, l6⟩ := kit_ok hM
  obtain ⟨rs, μ2, e2, hM2, r1, r5, hr⟩ := rises_ok hM1
  have hkit : ∀ μ, F_is_kit [.d (kitD ls gs a b)] μ = .ok (.d (.bool true)) μ := fun μ => by rw [is_kit_ok _ _ _ _ (by omega) (by omega), hk]
  have hnr : nd2 (.tuple (rs.map .int)) := ⟨rfl, fun xs e => by cases e; exact ⟨by simp; omega, fun y hy => by obtain ⟨i, _, rfl⟩ := List.mem_map.mp hy; rfl⟩⟩
  have hrb : riseB (.tuple (rs.map .int)) = true := by
    unfold riseB sizedD
    simp only [Bool.and_eq_true, decide_eq_true_eq, List.length_map, List.all_map, List.all_eq_true]
    exact ⟨by omega, fun x hx => by have := hr x hx; exact decide_eq_true (by omega)⟩
  obtain ⟨y5, y6, y7, y8, y9, y10, y11, y12, y13, y14, y15, μ3, e3, hM3⟩ := flows_run (ls := ls) (gs := gs) (rs := rs) (a := a) (b := b) (z0 := z0) (z2 := z2) (z5 := z5) (z6 := z6) (z7 := z7) (z8 := z8) (z9 := z9) (z10 := z10) (z11 := z11) (z12 := z12) (z13 := z13) (z14 := z14) (z15 := z15) hM2 hkit hnr hrb hlg l6 (by omega) r1
  obtain ⟨μ4, e4, hM4⟩ := refused_ok hM3 hk l6 (by omega) l2 r1 r5 hr
  exact ⟨some (.d (kitD ls gs a b)), some (.d (.tuple (rs.map .int))), y5, y6, y7, y8, y9, y10, y11, y12, y13, y14, y15, μ4, body_core e1 e2 hkit e3 e4, hM4⟩
end L28
set_option maxRecDepth 100000
set_option maxHeartbeats 2000000
namespace L28
open PySem PySem.Spec PyProof.Rows L2 Em
def cellF : D → D
  | .int i => .int ((if i < 0 then -i else i) % 1000000000000000000000000000000000000)
  | d => d
theorem hand_ok (ns : List Int) : ∃ ds, F__law_hand [.d (.list (ns.map .int))] [] = .ok (.fl ds) [] ∧ HandOk ds := by
  have na : decide (Int.natAbs 10 < 18446744073709551616) = true := by decide
  have hL : cLc (iAny (cH (cSl (cV 0) cNoPart (cPart (cK (.int 63)))))) [2] (gN 2) cYes (cBin opMod (cH (cCall (one fInt) (cCons (cH (cCall (one fAbs) (cCons (cH (cCall (one fInt) (cCons (cV 2) cNil))) cNil))) cNil))) (cH (cBin opPow (cK (.int 10)) (cK (.int 36))))) [some (.d (.list (ns.map .int))), none, none] [] = .ok (.fl (((ns.take 63).map PyData.int).map cellF)) [] := by
    refine cLc_map1 cellF (itm_list _) ?_ (nat_sizeLine (by simp; omega)) ?_
    · simp only [cV_, cK_, cBin_, cCall_, cCons_, cNil_, cH_, cD_, cA_, cT_, cIf_, cAndT_, cOrT_, cNotT_, cAndV_, cOrV_, cNotV_, cChain_, cSl_, cPart_, cNoPart_, cMt_, cIsi_, cNeg_, cFn_, sNil_, sCons_, sIf_, sSet_, sPar_, sExpr_, sRet_, sRetN_, sRaise_, sBrk_, sCnt_, sStore_, fnOf_, iAny_, iR1_, iR2_, iEn_, gN_, gT_, gsN_, gsC_, stepS_, cYes_, lcF_, bT, iP, isTy, tyName, opTup, opLst, opAdd, opII, cDivB, opMul, opOrd, opEq, kD_nn, kD_ii, kD_bb, kD_ss, kD_ni, kD_nb, kD_ns, kD_in, kD_bn, kD_sn, kD_is, kD_si, kD_bs, kD_sb, kD_tuple1, kD_tuple2, kD_list1, kD_list2, kD_ib, kD_bi, opIsN, opIx, opSl, one, fLen, fInt, fAbs, fTup, fList, see, hold, toD, adopt, Rs.bind, Rs.thenS, opStore, expo, itmOf, wipeR, mAppend, mExtend, sAsg_, List.mapM_cons, List.mapM_nil, Option.bind_eq_bind, Option.bind_some, Option.pure_def, List.append_assoc, sz0, sy0, sz1, sy1, sz2, sy2, sz3, sy3, sz4, sy4, sz5, sy5, sz6, sy6, sz7, sy7, sz8, sy8, sz9, sy9, sz10, sy10, sz11, sy11, sz12, sy12, sz13, sy13, sz14, sy14, sz15, sy15, sz16, sy16, sz17, sy17, sz18, sy18, sz19, sy19, sz20, sy20, sz21, sy21, sz22, sy22, sz23, sy23, sz24, sy24, sz25, sy25, sz26, sy26, sz27, sy27, sz28, sy28, sz29, sy29, sz30, sy30, sz31, sy31, sz32, sy32, sz33, sy33, sz34, sy34, sz35, sy35, sz36, sy36, sz37, sy37, sz38, sy38, sz39, sy39, sz40, sy40, sPar3_, iZp_, cIsE_, zipOf, isL, opRepT, opIsB, fMax2, fMin2, mCountB, mIndexB, bools0, bools1, List.getElem?_cons_zero, List.getElem?_cons_succ, List.map_cons, List.map_nil, List.length_cons, List.length_nil, List.cons_append, List.nil_append, List.replicate_succ, List.replicate_zero, List.set_cons_zero, List.set_cons_succ, Nat.zero_add, Nat.reduceAdd, Nat.reduceSub, ↓reduceIte, reduceCtorEq, String.reduceBEq, kb_NoneType_int, kb_NoneType_bool, kb_NoneType_str, kb_NoneType_tuple, kb_NoneType_list, kb_NoneType_dict, kb_bool_int, kb_bool_bool, kb_bool_str, kb_bool_tuple, kb_bool_list, kb_bool_dict, kb_int_int, kb_int_bool, kb_int_str, kb_int_tuple, kb_int_list, kb_int_dict, kb_str_int, kb_str_bool, kb_str_str, kb_str_tuple, kb_str_list, kb_str_dict, kb_list_int, kb_list_bool, kb_list_str, kb_list_tuple, kb_list_list, kb_list_dict, kb_tuple_int, kb_tuple_bool, kb_tuple_str, kb_tuple_tuple, kb_tuple_list, kb_tuple_dict, kb_dict_int, kb_dict_bool, kb_dict_str, kb_dict_tuple, kb_dict_list, kb_dict_dict, String.reduceEq, Int.reduceLT, Int.reduceLE, Int.reduceNeg, Int.reducePow, Nat.reducePow, Int.reduceToNat, Nat.reduceLT, Nat.reduceLeDiff, decide_true, decide_false, and_self, and_true, true_and, or_true, true_or, or_false, false_or, Bool.not_true, Bool.not_false, Bool.true_eq_false, Bool.false_eq_true, Option.map_some, Option.map_none]
      rw [show ((63 : Int)) = ((63 : Nat) : Int) from rfl, cutD_take, List.map_take]
    · intro d hd μ' _
      obtain ⟨i, _, rfl⟩ := List.mem_map.mp hd
      simp only [cV_, cK_, cBin_, cCall_, cCons_, cNil_, cH_, cD_, cA_, cT_, cIf_, cAndT_, cOrT_, cNotT_, cAndV_, cOrV_, cNotV_, cChain_, cSl_, cPart_, cNoPart_, cMt_, cIsi_, cNeg_, cFn_, sNil_, sCons_, sIf_, sSet_, sPar_, sExpr_, sRet_, sRetN_, sRaise_, sBrk_, sCnt_, sStore_, fnOf_, iAny_, iR1_, iR2_, iEn_, gN_, gT_, gsN_, gsC_, stepS_, cYes_, lcF_, bT, iP, isTy, tyName, opTup, opLst, opAdd, opII, cDivB, opMul, opOrd, opEq, kD_nn, kD_ii, kD_bb, kD_ss, kD_ni, kD_nb, kD_ns, kD_in, kD_bn, kD_sn, kD_is, kD_si, kD_bs, kD_sb, kD_tuple1, kD_tuple2, kD_list1, kD_list2, kD_ib, kD_bi, opIsN, opIx, opSl, one, fLen, fInt, fAbs, fTup, fList, see, hold, toD, adopt, Rs.bind, Rs.thenS, opStore, expo, itmOf, wipeR, mAppend, mExtend, sAsg_, List.mapM_cons, List.mapM_nil, Option.bind_eq_bind, Option.bind_some, Option.pure_def, List.append_assoc, sz0, sy0, sz1, sy1, sz2, sy2, sz3, sy3, sz4, sy4, sz5, sy5, sz6, sy6, sz7, sy7, sz8, sy8, sz9, sy9, sz10, sy10, sz11, sy11, sz12, sy12, sz13, sy13, sz14, sy14, sz15, sy15, sz16, sy16, sz17, sy17, sz18, sy18, sz19, sy19, sz20, sy20, sz21, sy21, sz22, sy22, sz23, sy23, sz24, sy24, sz25, sy25, sz26, sy26, sz27, sy27, sz28, sy28, sz29, sy29, sz30, sy30, sz31, sy31, sz32, sy32, sz33, sy33, sz34, sy34, sz35, sy35, sz36, sy36, sz37, sy37, sz38, sy38, sz39, sy39, sz40, sy40, sPar3_, iZp_, cIsE_, zipOf, isL, opRepT, opIsB, fMax2, fMin2, mCountB, mIndexB, bools0, bools1, List.getElem?_cons_zero, List.getElem?_cons_succ, List.map_cons, List.map_nil, List.length_cons, List.length_nil, List.cons_append, List.nil_append, List.replicate_succ, List.replicate_zero, List.set_cons_zero, List.set_cons_succ, Nat.zero_add, Nat.reduceAdd, Nat.reduceSub, ↓reduceIte, reduceCtorEq, String.reduceBEq, kb_NoneType_int, kb_NoneType_bool, kb_NoneType_str, kb_NoneType_tuple, kb_NoneType_list, kb_NoneType_dict, kb_bool_int, kb_bool_bool, kb_bool_str, kb_bool_tuple, kb_bool_list, kb_bool_dict, kb_int_int, kb_int_bool, kb_int_str, kb_int_tuple, kb_int_list, kb_int_dict, kb_str_int, kb_str_bool, kb_str_str, kb_str_tuple, kb_str_list, kb_str_dict, kb_list_int, kb_list_bool, kb_list_str, kb_list_tuple, kb_list_list, kb_list_dict, kb_tuple_int, kb_tuple_bool, kb_tuple_str, kb_tuple_tuple, kb_tuple_list, kb_tuple_dict, kb_dict_int, kb_dict_bool, kb_dict_str, kb_dict_tuple, kb_dict_list, kb_dict_dict, String.reduceEq, Int.reduceLT, Int.reduceLE, Int.reduceNeg, Int.reducePow, Nat.reducePow, Int.reduceToNat, Nat.reduceLT, Nat.reduceLeDiff, decide_true, decide_false, and_self, and_true, true_and, or_true, true_or, or_false, false_or, Bool.not_true, Bool.not_false, Bool.true_eq_false, Bool.false_eq_true, Option.map_some, Option.map_none, na, cellF]
  have e : ((ns.take 63).map PyData.int).map cellF = ((ns.take 63).map fun i => (if i < 0 then -i else i) % 1000000000000000000000000000000000000).map PyData.int := by
    rw [List.map_map, List.map_map]
    rfl
  rw [e] at hL
  generalize (ns.take 63).map (fun i : Int => (if i < 0 then -i else i) % 1000000000000000000000000000000000000) = cells at hL
  generalize hC : cells.map PyData.int = C at hL
  refine ⟨[.list C, .int 0, .int 0, .int (463 + 347 * ((C.length : Nat) : Int)), .int 0], ?_, cells, 0, 0, _, 0, by rw [hC], by omega⟩
  simp only [F__law_hand, C__law_hand, cV_, cK_, cBin_, cCall_, cCons_, cNil_, cH_, cD_, cA_, cT_, cIf_, cAndT_, cOrT_, cNotT_, cAndV_, cOrV_, cNotV_, cChain_, cSl_, cPart_, cNoPart_, cMt_, cIsi_, cNeg_, cFn_, sNil_, sCons_, sIf_, sSet_, sPar_, sExpr_, sRet_, sRetN_, sRaise_, sBrk_, sCnt_, sStore_, fnOf_, iAny_, iR1_, iR2_, iEn_, gN_, gT_, gsN_, gsC_, stepS_, cYes_, lcF_, bT, iP, isTy, tyName, opTup, opLst, opAdd, opII, cDivB, opMul, opOrd, opEq, kD_nn, kD_ii, kD_bb, kD_ss, kD_ni, kD_nb, kD_ns, kD_in, kD_bn, kD_sn, kD_is, kD_si, kD_bs, kD_sb, kD_tuple1, kD_tuple2, kD_list1, kD_list2, kD_ib, kD_bi, opIsN, opIx, opSl, one, fLen, fInt, fAbs, fTup, fList, see, hold, toD, adopt, Rs.bind, Rs.thenS, opStore, expo, itmOf, wipeR, mAppend, mExtend, sAsg_, List.mapM_cons, List.mapM_nil, Option.bind_eq_bind, Option.bind_some, Option.pure_def, List.append_assoc, sz0, sy0, sz1, sy1, sz2, sy2, sz3, sy3, sz4, sy4, sz5, sy5, sz6, sy6, sz7, sy7, sz8, sy8, sz9, sy9, sz10, sy10, sz11, sy11, sz12, sy12, sz13, sy13, sz14, sy14, sz15, sy15, sz16, sy16, sz17, sy17, sz18, sy18, sz19, sy19, sz20, sy20, sz21, sy21, sz22, sy22, sz23, sy23, sz24, sy24, sz25, sy25, sz26, sy26, sz27, sy27, sz28, sy28, sz29, sy29, sz30, sy30, sz31, sy31, sz32, sy32, sz33, sy33, sz34, sy34, sz35, sy35, sz36, sy36, sz37, sy37, sz38, sy38, sz39, sy39, sz40, sy40, sPar3_, iZp_, cIsE_, zipOf, isL, opRepT, opIsB, fMax2, fMin2, mCountB, mIndexB, bools0, bools1, List.getElem?_cons_zero, List.getElem?_cons_succ, List.map_cons, List.map_nil, List.length_cons, List.length_nil, List.cons_append, List.nil_append, List.replicate_succ, List.replicate_zero, List.set_cons_zero, List.set_cons_succ, Nat.zero_add, Nat.reduceAdd, Nat.reduceSub, ↓reduceIte, reduceCtorEq, String.reduceBEq, kb_NoneType_int, kb_NoneType_bool, kb_NoneType_str, kb_NoneType_tuple, kb_NoneType_list, kb_NoneType_dict, kb_bool_int, kb_bool_bool, kb_bool_str, kb_bool_tuple, kb_bool_list, kb_bool_dict, kb_int_int, kb_int_bool, kb_int_str, kb_int_tuple, kb_int_list, kb_int_dict, kb_str_int, kb_str_bool, kb_str_str, kb_str_tuple, kb_str_list, kb_str_dict, kb_list_int, kb_list_bool, kb_list_str, kb_list_tuple, kb_list_list, kb_list_dict, kb_tuple_int, kb_tuple_bool, kb_tuple_str, kb_tuple_tuple, kb_tuple_list, kb_tuple_dict, kb_dict_int, kb_dict_bool, kb_dict_str, kb_dict_tuple, kb_dict_list, kb_dict_dict, String.reduceEq, Int.reduceLT, Int.reduceLE, Int.reduceNeg, Int.reducePow, Nat.reducePow, Int.reduceToNat, Nat.reduceLT, Nat.reduceLeDiff, decide_true, decide_false, and_self, and_true, true_and, or_true, true_or, or_false, false_or, Bool.not_true, Bool.not_false, Bool.true_eq_false, Bool.false_eq_true, Option.map_some, Option.map_none, hL, List.take_nil]
theorem law_body : C_law = (sCons (sSet 1 (cA (cFn 1 F__law_hand (cCons (cV 0) cNil)))) (sCons (sFor (iR1 (cK (.int 5))) (gN 2) bodyL)
  (sCons (sAsg (gT (gsC (gN 3) (gsC (gN 4) gsN))) (cCall opTup (cCons (cD (cCall opTup (cCons (cD (cCall opTup (cCons (cK (.int 0)) (cCons (cK (.int 1)) (cCons (cK (.int 3)) (cCons (cK (.int 6)) cNil)))))) (cCons (cD (cCall opTup (cCons (cK (.int 30)) (cCons (cK (.int 30)) (cCons (cK (.int 25)) (cCons (cK (.int 20)) cNil)))))) (cCons (cK (.int 5)) (cCons (cK (.int 40)) cNil)))))) (cCons (cD (cCall opTup (cCons (cK (.int 0)) (cCons (cK (.int 0)) (cCons (cK (.int 0)) (cCons (cK (.int 0)) cNil)))))) cNil))))
  (sRet (cAndV (cBin (opEq false) (cH (cFn 6 F_stretch_told (cCons (cV 3) (cCons (cV 4) (cCons (cK (.int 2)) (cCons (cK (.int 0)) (cCons (cK (.int 4)) (cCons (cK (.int 10)) cNil)))))))) (cH (cCall opTup (cCons (cK (.int 22)) (cCons (cK (.int 25)) cNil))))) (cBin (opIsN false) (cH (cFn 6 F_stretch_told (cCons (cV 3) (cCons (cV 4) (cCons (cK (.int 3)) (cCons (cK (.int 0)) (cCons (cK (.int 4)) (cCons (cK (.int 10)) cNil)))))))) (cK .none))))))) := rfl
theorem known_run (f : Nat) (lo g : Int) (hf : f < 4) (hl : ([0, 1, 3, 6] : List Int)[f]? = some lo) (hg : ([30, 30, 25, 20] : List Int)[f]? = some g) (μ : Mem) : F_stretch_told [.d (kitD [0, 1, 3, 6] [30, 30, 25, 20] 5 40), .d (.tuple (([0, 0, 0, 0] : List Int).map .int)), .d (.int (f : Int)), .d (.int ((0 : Nat) : Int)), .d (.int ((4 : Nat) : Int)), .d (.int 10)] μ = .ok (.d (strD g 40 [0, 0, 0, 0] lo 4 10)) μ := by
  have hkit : ∀ μ, F_is_kit [.d (kitD [0, 1, 3, 6] [30, 30, 25, 20] 5 40)] μ = .ok (.d (.bool true)) μ := fun μ => by rw [is_kit_ok _ _ _ _ (by decide) (by decide)]; rfl
  have hnr : nd2 (.tuple (([0, 0, 0, 0] : List Int).map .int)) := ⟨rfl, fun xs e => by cases e; exact ⟨by simp, fun y hy => by simp at hy; subst hy; rfl⟩⟩
  have L0 : ∀ μ, F_check_line_of [.d (kitD [0, 1, 3, 6] [30, 30, 25, 20] 5 40), .d (.tuple (([0, 0, 0, 0] : List Int).map .int)), .d (.int (f : Int))] μ = .ok (.d .none) μ := fun μ => by
    rw [line_flow hkit hnr rfl rfl, if_pos (within_yes (by simp; omega))]
  have := told_all L0 (i := ((0 : Nat) : Int)) (j := ((4 : Nat) : Int)) (due := 10) rfl rfl rfl (raw_stretch_ok [0, 1, 3, 6] [30, 30, 25, 20] [0, 0, 0, 0] 5 40 f 0 4 10 lo g (by decide) (by decide) (by decide) hl hg) μ
  exact this
theorem plain (ns : List Int) (hlen : ns.length ≤ 63) (hbits : ∀ z ∈ ns, Builtin.Int.intBits z ≤ 1048576) : ∃ μ, F_law [.d (.list (ns.map .int))] [] = .ok (.d (.bool true)) μ := by
  obtain ⟨ds, eh, hk⟩ := hand_ok ns
  obtain ⟨ρ', μ', ef, ⟨z2, z3, z4, z5, z6, z7, z8, z9, z10, z11, z12, z13, z14, z15, rfl⟩, hM⟩ := for_inv (b := stepS (gN 2) bodyL) (itm_rng 0 5) (fun i ρ μ => (∃ z2 z3 z4 z5 z6 z7 z8 z9 z10 z11 z12 z13 z14 z15, ρ = [some (.d (.list (ns.map .int))), some (.c 0), z2, z3, z4, z5, z6, z7, z8, z9, z10, z11, z12, z13, z14, z15]) ∧ HM μ) (fun i d ρ μ hd hI => by
    obtain ⟨⟨z2, z3, z4, z5, z6, z7, z8, z9, z10, z11, z12, z13, z14, z15, rfl⟩, hM⟩ := hI
    obtain ⟨y3, y4, y5, y6, y7, y8, y9, y10, y11, y12, y13, y14, y15, μ', e, h'⟩ := body_run (z0 := some (.d (.list (ns.map .int)))) (z2 := some (.d d)) (z3 := z3) (z4 := z4) (z5 := z5) (z6 := z6) (z7 := z7) (z8 := z8) (z9 := z9) (z10 := z10) (z11 := z11) (z12 := z12) (z13 := z13) (z14 := z14) (z15 := z15) hM
    exact ⟨_, μ', by simp only [cV_, cK_, cBin_, cCall_, cCons_, cNil_, cH_, cD_, cA_, cT_, cIf_, cAndT_, cOrT_, cNotT_, cAndV_, cOrV_, cNotV_, cChain_, cSl_, cPart_, cNoPart_, cMt_, cIsi_, cNeg_, cFn_, sNil_, sCons_, sIf_, sSet_, sPar_, sExpr_, sRet_, sRetN_, sRaise_, sBrk_, sCnt_, sStore_, fnOf_, iAny_, iR1_, iR2_, iEn_, gN_, gT_, gsN_, gsC_, stepS_, cYes_, lcF_, bT, iP, isTy, tyName, opTup, opLst, opAdd, opII, cDivB, opMul, opOrd, opEq, kD_nn, kD_ii, kD_bb, kD_ss, kD_ni, kD_nb, kD_ns, kD_in, kD_bn, kD_sn, kD_is, kD_si, kD_bs, kD_sb, kD_tuple1, kD_tuple2, kD_list1, kD_list2, kD_ib, kD_bi, opIsN, opIx, opSl, one, fLen, fInt, fAbs, fTup, fList, see, hold, toD, adopt, Rs.bind, Rs.thenS, opStore, expo, itmOf, wipeR, mAppend, mExtend, sAsg_, List.mapM_cons, List.mapM_nil, Option.bind_eq_bind, Option.bind_some, Option.pure_def, List.append_assoc, sz0, sy0, sz1, sy1, sz2, sy2, sz3, sy3, sz4, sy4, sz5, sy5, sz6, sy6, sz7, sy7, sz8, sy8, sz9, sy9, sz10, sy10, sz11, sy11, sz12, sy12, sz13, sy13, sz14, sy14, sz15, sy15, sz16, sy16, sz17, sy17, sz18, sy18, sz19, sy19, sz20, sy20, sz21, sy21, sz22, sy22, sz23, sy23, sz24, sy24, sz25, sy25, sz26, sy26, sz27, sy27, sz28, sy28, sz29, sy29, sz30, sy30, sz31, sy31, sz32, sy32, sz33, sy33, sz34, sy34, sz35, sy35, sz36, sy36, sz37, sy37, sz38, sy38, sz39, sy39, sz40, sy40, sPar3_, iZp_, cIsE_, zipOf, isL, opRepT, opIsB, fMax2, fMin2, mCountB, mIndexB, bools0, bools1, List.getElem?_cons_zero, List.getElem?_cons_succ, List.map_cons, List.map_nil, List.length_cons, List.length_nil, List.cons_append, List.nil_append, List.replicate_succ, List.replicate_zero, List.set_cons_zero, List.set_cons_succ, Nat.zero_add, Nat.reduceAdd, Nat.reduceSub, ↓reduceIte, reduceCtorEq, String.reduceBEq, kb_NoneType_int, kb_NoneType_bool, kb_NoneType_str, kb_NoneType_tuple, kb_NoneType_list, kb_NoneType_dict, kb_bool_int, kb_bool_bool, kb_bool_str, kb_bool_tuple, kb_bool_list, kb_bool_dict, kb_int_int, kb_int_bool, kb_int_str, kb_int_tuple, kb_int_list, kb_int_dict, kb_str_int, kb_str_bool, kb_str_str, kb_str_tuple, kb_str_list, kb_str_dict, kb_list_int, kb_list_bool, kb_list_str, kb_list_tuple, kb_list_list, kb_list_dict, kb_tuple_int, kb_tuple_bool, kb_tuple_str, kb_tuple_tuple, kb_tuple_list, kb_tuple_dict, kb_dict_int, kb_dict_bool, kb_dict_str, kb_dict_tuple, kb_dict_list, kb_dict_dict, String.reduceEq, Int.reduceLT, Int.reduceLE, Int.reduceNeg, Int.reducePow, Nat.reducePow, Int.reduceToNat, Nat.reduceLT, Nat.reduceLeDiff, decide_true, decide_false, and_self, and_true, true_and, or_true, true_or, or_false, false_or, Bool.not_true, Bool.not_false, Bool.true_eq_false, Bool.false_eq_true, Option.map_some, Option.map_none]; exact e, ⟨_, _, _, _, _, _, _, _, _, _, _, _, _, _, rfl⟩, h'⟩)
    (ρ := [some (.d (.list (ns.map .int))), some (.c 0), none, none, none, none, none, none, none, none, none, none, none, none, none, none]) (μ := [.lst ds]) ⟨⟨_, _, _, _, _, _, _, _, _, _, _, _, _, _, rfl⟩, ds, rfl, hk⟩
  have hfor : sFor (iR1 (cK (.int 5))) (gN 2) bodyL [some (.d (.list (ns.map .int))), some (.c 0), none, none, none, none, none, none, none, none, none, none, none, none, none, none] [.lst ds] = _ := (sFor_eq (itm_rng 0 5) (μ1 := [.lst ds]) (by simp only [cV_, cK_, cBin_, cCall_, cCons_, cNil_, cH_, cD_, cA_, cT_, cIf_, cAndT_, cOrT_, cNotT_, cAndV_, cOrV_, cNotV_, cChain_, cSl_, cPart_, cNoPart_, cMt_, cIsi_, cNeg_, cFn_, sNil_, sCons_, sIf_, sSet_, sPar_, sExpr_, sRet_, sRetN_, sRaise_, sBrk_, sCnt_, sStore_, fnOf_, iAny_, iR1_, iR2_, iEn_, gN_, gT_, gsN_, gsC_, stepS_, cYes_, lcF_, bT, iP, isTy, tyName, opTup, opLst, opAdd, opII, cDivB, opMul, opOrd, opEq, kD_nn, kD_ii, kD_bb, kD_ss, kD_ni, kD_nb, kD_ns, kD_in, kD_bn, kD_sn, kD_is, kD_si, kD_bs, kD_sb, kD_tuple1, kD_tuple2, kD_list1, kD_list2, kD_ib, kD_bi, opIsN, opIx, opSl, one, fLen, fInt, fAbs, fTup, fList, see, hold, toD, adopt, Rs.bind, Rs.thenS, opStore, expo, itmOf, wipeR, mAppend, mExtend, sAsg_, List.mapM_cons, List.mapM_nil, Option.bind_eq_bind, Option.bind_some, Option.pure_def, List.append_assoc, sz0, sy0, sz1, sy1, sz2, sy2, sz3, sy3, sz4, sy4, sz5, sy5, sz6, sy6, sz7, sy7, sz8, sy8, sz9, sy9, sz10, sy10, sz11, sy11, sz12, sy12, sz13, sy13, sz14, sy14, sz15, sy15, sz16, sy16, sz17, sy17, sz18, sy18, sz19, sy19, sz20, sy20, sz21, sy21, sz22, sy22, sz23, sy23, sz24, sy24, sz25, sy25, sz26, sy26, sz27, sy27, sz28, sy28, sz29, sy29, sz30, sy30, sz31, sy31, sz32, sy32, sz33, sy33, sz34, sy34, sz35, sy35, sz36, sy36, sz37, sy37, sz38, sy38, sz39, sy39, sz40, sy40, sPar3_, iZp_, cIsE_, zipOf, isL, opRepT, opIsB, fMax2, fMin2, mCountB, mIndexB, bools0, bools1, List.getElem?_cons_zero, List.getElem?_cons_succ, List.map_cons, List.map_nil, List.length_cons, List.length_nil, List.cons_append, List.nil_append, List.replicate_succ, List.replicate_zero, List.set_cons_zero, List.set_cons_succ, Nat.zero_add, Nat.reduceAdd, Nat.reduceSub, ↓reduceIte, reduceCtorEq, String.reduceBEq, kb_NoneType_int, kb_NoneType_bool, kb_NoneType_str, kb_NoneType_tuple, kb_NoneType_list, kb_NoneType_dict, kb_bool_int, kb_bool_bool, kb_bool_str, kb_bool_tuple, kb_bool_list, kb_bool_dict, kb_int_int, kb_int_bool, kb_int_str, kb_int_tuple, kb_int_list, kb_int_dict, kb_str_int, kb_str_bool, kb_str_str, kb_str_tuple, kb_str_list, kb_str_dict, kb_list_int, kb_list_bool, kb_list_str, kb_list_tuple, kb_list_list, kb_list_dict, kb_tuple_int, kb_tuple_bool, kb_tuple_str, kb_tuple_tuple, kb_tuple_list, kb_tuple_dict, kb_dict_int, kb_dict_bool, kb_dict_str, kb_dict_tuple, kb_dict_list, kb_dict_dict, String.reduceEq, Int.reduceLT, Int.reduceLE, Int.reduceNeg, Int.reducePow, Nat.reducePow, Int.reduceToNat, Nat.reduceLT, Nat.reduceLeDiff, decide_true, decide_false, and_self, and_true, true_and, or_true, true_or, or_false, false_or, Bool.not_true, Bool.not_false, Bool.true_eq_false, Bool.false_eq_true, Option.map_some, Option.map_none])).trans ef
  have k2 : ∀ μ, F_stretch_told [.d (.tuple [.tuple [.int 0, .int 1, .int 3, .int 6], .tuple [.int 30, .int 30, .int 25, .int 20], .int 5, .int 40]), .d (.tuple [.int 0, .int 0, .int 0, .int 0]), .d (.int 2), .d (.int 0), .d (.int 4), .d (.int 10)] μ = .ok (.d (.tuple [.int 22, .int 25])) μ := fun μ => by
    have h := known_run 2 3 25 (by decide) rfl rfl μ
    have e : strD 25 40 [0, 0, 0, 0] 3 4 10 = .tuple [.int 22, .int 25] := by unfold strD; rw [if_pos (by decide)]; rfl
    rw [e] at h
    exact h
  have k3 : ∀ μ, F_stretch_told [.d (.tuple [.tuple [.int 0, .int 1, .int 3, .int 6], .tuple [.int 30, .int 30, .int 25, .int 20], .int 5, .int 40]), .d (.tuple [.int 0, .int 0, .int 0, .int 0]), .d (.int 3), .d (.int 0), .d (.int 4), .d (.int 10)] μ = .ok (.d .none) μ := fun μ => by
    have h := known_run 3 6 20 (by decide) rfl rfl μ
    have e : strD 20 40 [0, 0, 0, 0] 6 4 10 = .none := by unfold strD; rw [if_neg (by decide)]
    rw [e] at h
    exact h
  have q : PyData.eqv (.tuple [.int 22, .int 25]) (.tuple [.int 22, .int 25]) = true ∧ SeqAt.shaped (.tuple [.int 22, .int 25]) = true := by decide +kernel
  refine ⟨μ'.take 0, ?_⟩
  simp only [F_law, law_body, cV_, cK_, cBin_, cCall_, cCons_, cNil_, cH_, cD_, cA_, cT_, cIf_, cAndT_, cOrT_, cNotT_, cAndV_, cOrV_, cNotV_, cChain_, cSl_, cPart_, cNoPart_, cMt_, cIsi_, cNeg_, cFn_, sNil_, sCons_, sIf_, sSet_, sPar_, sExpr_, sRet_, sRetN_, sRaise_, sBrk_, sCnt_, sStore_, fnOf_, iAny_, iR1_, iR2_, iEn_, gN_, gT_, gsN_, gsC_, stepS_, cYes_, lcF_, bT, iP, isTy, tyName, opTup, opLst, opAdd, opII, cDivB, opMul, opOrd, opEq, kD_nn, kD_ii, kD_bb, kD_ss, kD_ni, kD_nb, kD_ns, kD_in, kD_bn, kD_sn, kD_is, kD_si, kD_bs, kD_sb, kD_tuple1, kD_tuple2, kD_list1, kD_list2, kD_ib, kD_bi, opIsN, opIx, opSl, one, fLen, fInt, fAbs, fTup, fList, see, hold, toD, adopt, Rs.bind, Rs.thenS, opStore, expo, itmOf, wipeR, mAppend, mExtend, sAsg_, List.mapM_cons, List.mapM_nil, Option.bind_eq_bind, Option.bind_some, Option.pure_def, List.append_assoc, sz0, sy0, sz1, sy1, sz2, sy2, sz3, sy3, sz4, sy4, sz5, sy5, sz6, sy6, sz7, sy7, sz8, sy8, sz9, sy9, sz10, sy10, sz11, sy11, sz12, sy12, sz13, sy13, sz14, sy14, sz15, sy15, sz16, sy16, sz17, sy17, sz18, sy18, sz19, sy19, sz20, sy20, sz21, sy21, sz22, sy22, sz23, sy23, sz24, sy24, sz25, sy25, sz26, sy26, sz27, sy27, sz28, sy28, sz29, sy29, sz30, sy30, sz31, sy31, sz32, sy32, sz33, sy33, sz34, sy34, sz35, sy35, sz36, sy36, sz37, sy37, sz38, sy38, sz39, sy39, sz40, sy40, sPar3_, iZp_, cIsE_, zipOf, isL, opRepT, opIsB, fMax2, fMin2, mCountB, mIndexB, bools0, bools1, List.getElem?_cons_zero, List.getElem?_cons_succ, List.map_cons, List.map_nil, List.length_cons, List.length_nil, List.cons_append, List.nil_append, List.replicate_succ, List.replicate_zero, List.set_cons_zero, List.set_cons_succ, Nat.zero_add, Nat.reduceAdd, Nat.reduceSub, ↓reduceIte, reduceCtorEq, String.reduceBEq, kb_NoneType_int, kb_NoneType_bool, kb_NoneType_str, kb_NoneType_tuple, kb_NoneType_list, kb_NoneType_dict, kb_bool_int, kb_bool_bool, kb_bool_str, kb_bool_tuple, kb_bool_list, kb_bool_dict, kb_int_int, kb_int_bool, kb_int_str, kb_int_tuple, kb_int_list, kb_int_dict, kb_str_int, kb_str_bool, kb_str_str, kb_str_tuple, kb_str_list, kb_str_dict, kb_list_int, kb_list_bool, kb_list_str, kb_list_tuple, kb_list_list, kb_list_dict, kb_tuple_int, kb_tuple_bool, kb_tuple_str, kb_tuple_tuple, kb_tuple_list, kb_tuple_dict, kb_dict_int, kb_dict_bool, kb_dict_str, kb_dict_tuple, kb_dict_list, kb_dict_dict, String.reduceEq, Int.reduceLT, Int.reduceLE, Int.reduceNeg, Int.reducePow, Nat.reducePow, Int.reduceToNat, Nat.reduceLT, Nat.reduceLeDiff, decide_true, decide_false, and_self, and_true, true_and, or_true, true_or, or_false, false_or, Bool.not_true, Bool.not_false, Bool.true_eq_false, Bool.false_eq_true, Option.map_some, Option.map_none, eh, hfor, k2, k3, opIsN, q]
end L28
namespace L28
open PySem PySem.Spec PyProof.Rows L2 Em
theorem all_mk {q : Program} {loose : List Str} {mean : ExcName → Option Value} {mg mb : Str → Option Value} {h : Heap} {w : World} {K : PySem.W.Frag} {fa : Addr} {l : PySem.W.OpenLaw} (T : Top q loose mean mg mb h) (X : K.In h) (hfa : mg "law" = some (.ref fa))
    {A_law_hand : Addr} {od_law_hand an_law_hand : Option Addr} {sl_law_hand : Array (Option Value)} {oc_law_hand kV_law_hand dc_law_hand pm_law_hand ct_law_hand : Value}
    {cd_law_hand : Value}
    {A_law_draw : Addr} {od_law_draw an_law_draw : Option Addr} {sl_law_draw : Array (Option Value)} {oc_law_draw kV_law_draw dc_law_draw pm_law_draw ct_law_draw : Value}
    {cd_law_draw : Value}
    {A_law_kit : Addr} {od_law_kit an_law_kit : Option Addr} {sl_law_kit : Array (Option Value)} {oc_law_kit kV_law_kit dc_law_kit pm_law_kit ct_law_kit : Value}
    {cd_law_kit : Value}
    {A_law_any : Addr} {od_law_any an_law_any : Option Addr} {sl_law_any : Array (Option Value)} {oc_law_any kV_law_any dc_law_any pm_law_any ct_law_any : Value}
    {cd_law_any : Value}
    {A_law_rises : Addr} {od_law_rises an_law_rises : Option Addr} {sl_law_rises : Array (Option Value)} {oc_law_rises kV_law_rises dc_law_rises pm_law_rises ct_law_rises : Value}
    {cd_law_rises : Value}
    {Ais_integer : Addr} {odis_integer anis_integer : Option Addr} {slis_integer : Array (Option Value)} {ocis_integer kVis_integer dcis_integer pmis_integer ctis_integer : Value}
    {cdis_integer : Value}
    {Ais_within : Addr} {odis_within anis_within : Option Addr} {slis_within : Array (Option Value)} {ocis_within kVis_within dcis_within pmis_within ctis_within : Value}
    {cdis_within : Value}
    {Ais_sized : Addr} {odis_sized anis_sized : Option Addr} {slis_sized : Array (Option Value)} {ocis_sized kVis_sized dcis_sized pmis_sized ctis_sized : Value}
    {cdis_sized : Value}
    {Aare_pressures : Addr} {odare_pressures anare_pressures : Option Addr} {slare_pressures : Array (Option Value)} {ocare_pressures kVare_pressures dcare_pressures pmare_pressures ctare_pressures : Value}
    {cdare_pressures : Value}
    {Ais_kit : Addr} {odis_kit anis_kit : Option Addr} {slis_kit : Array (Option Value)} {ocis_kit kVis_kit dcis_kit pmis_kit ctis_kit : Value}
    {cdis_kit : Value}
    {A_law_stretch : Addr} {od_law_stretch an_law_stretch : Option Addr} {sl_law_stretch : Array (Option Value)} {oc_law_stretch kV_law_stretch dc_law_stretch pm_law_stretch ct_law_stretch : Value}
    {cd_law_stretch : Value}
    {Acheck_kit : Addr} {odcheck_kit ancheck_kit : Option Addr} {slcheck_kit : Array (Option Value)} {occheck_kit kVcheck_kit dccheck_kit pmcheck_kit ctcheck_kit : Value}
    {cdcheck_kit : Value}
    {Acheck_rises : Addr} {odcheck_rises ancheck_rises : Option Addr} {slcheck_rises : Array (Option Value)} {occheck_rises kVcheck_rises dccheck_rises pmcheck_rises ctcheck_rises : Value}
    {cdcheck_rises : Value}
    {Acheck_flow : Addr} {odcheck_flow ancheck_flow : Option Addr} {slcheck_flow : Array (Option Value)} {occheck_flow kVcheck_flow dccheck_flow pmcheck_flow ctcheck_flow : Value}
    {cdcheck_flow : Value}
    {Acheck_line_of : Addr} {odcheck_line_of ancheck_line_of : Option Addr} {slcheck_line_of : Array (Option Value)} {occheck_line_of kVcheck_line_of dccheck_line_of pmcheck_line_of ctcheck_line_of : Value}
    {cdcheck_line_of : Value}
    {Acheck_pressure : Addr} {odcheck_pressure ancheck_pressure : Option Addr} {slcheck_pressure : Array (Option Value)} {occheck_pressure kVcheck_pressure dccheck_pressure pmcheck_pressure ctcheck_pressure : Value}
    {cdcheck_pressure : Value}
    {Asums_on : Addr} {odsums_on ansums_on : Option Addr} {slsums_on : Array (Option Value)} {ocsums_on kVsums_on dcsums_on pmsums_on ctsums_on : Value}
    {cdsums_on : Value}
    {Araw_loss : Addr} {odraw_loss anraw_loss : Option Addr} {slraw_loss : Array (Option Value)} {ocraw_loss kVraw_loss dcraw_loss pmraw_loss ctraw_loss : Value}
    {cdraw_loss : Value}
    {Araw_stretch : Addr} {odraw_stretch anraw_stretch : Option Addr} {slraw_stretch : Array (Option Value)} {ocraw_stretch kVraw_stretch dcraw_stretch pmraw_stretch ctraw_stretch : Value}
    {cdraw_stretch : Value}
    {Astretch_told : Addr} {odstretch_told anstretch_told : Option Addr} {slstretch_told : Array (Option Value)} {ocstretch_told kVstretch_told dcstretch_told pmstretch_told ctstretch_told : Value}
    {cdstretch_told : Value}
    {A_law_bad_kit : Addr} {od_law_bad_kit an_law_bad_kit : Option Addr} {sl_law_bad_kit : Array (Option Value)} {oc_law_bad_kit kV_law_bad_kit dc_law_bad_kit pm_law_bad_kit ct_law_bad_kit : Value}
    {cd_law_bad_kit : Value}
    {A_law_said : Addr} {od_law_said an_law_said : Option Addr} {sl_law_said : Array (Option Value)} {oc_law_said kV_law_said dc_law_said pm_law_said ct_law_said : Value}
    {cd_law_said : Value}
    {Acan_burst : Addr} {odcan_burst ancan_burst : Option Addr} {slcan_burst : Array (Option Value)} {occan_burst kVcan_burst dccan_burst pmcan_burst ctcan_burst : Value}
    {cdcan_burst : Value}
    {Aloss_of : Addr} {odloss_of anloss_of : Option Addr} {slloss_of : Array (Option Value)} {ocloss_of kVloss_of dcloss_of pmloss_of ctloss_of : Value}
    {cdloss_of : Value}
    {A_law_refused_right : Addr} {od_law_refused_right an_law_refused_right : Option Addr} {sl_law_refused_right : Array (Option Value)} {oc_law_refused_right kV_law_refused_right dc_law_refused_right pm_law_refused_right ct_law_refused_right : Value}
    {cc_law_refused_right Pt_law_refused_right : Addr} {occ_law_refused_right : Value} {odc_law_refused_right : Option Addr} {oslc_law_refused_right : Array (Option Value)} {vsc_law_refused_right : Array Value}
    {dr_law_refused_right : DefRec}
    {A_law_asked : Addr} {od_law_asked an_law_asked : Option Addr} {sl_law_asked : Array (Option Value)} {oc_law_asked kV_law_asked dc_law_asked pm_law_asked ct_law_asked : Value}
    {cd_law_asked : Value}
    {Alaw : Addr} {odlaw anlaw : Option Addr} {sllaw : Array (Option Value)} {oclaw kVlaw dclaw pmlaw ctlaw : Value}
    {cdlaw : Value}
    {tLEAST_FLOWS : Tok}
    {tMOST_FLOWS : Tok}
    {tMOST_PRESSURE : Tok}
    {tMOST_RISES : Tok}
    {tMOST_RISE : Tok}
    {tMOST_BESIDE : Tok}
    {CNoKit : Addr}
    {CNoRises : Addr}
    {CNoFlow : Addr}
    {CNoDue : Addr}
    {CNoSpot : Addr}
    {CEmberError : Addr}
    {CNoNumber : Addr}
    (a_law_hand : PySem.W.nsIn K mainGlobals "_law_hand" = some (some (.ref A_law_hand)))
    (l_law_hand : K.lookup A_law_hand = some ⟨oc_law_hand, od_law_hand, .func (PySem.W.fnOf "_law_hand" "_law_hand" (defArgs st__law_hand) (defBody st__law_hand) (defScope st__law_hand) .none kV_law_hand dc_law_hand pm_law_hand an_law_hand cd_law_hand ct_law_hand), sl_law_hand⟩)
    (c_law_hand : PySem.W.codeIn K cd_law_hand "_law_hand" = true)
    (k_law_hand : PySem.W.keepIn K (.ref A_law_hand) = true)
    (a_law_draw : PySem.W.nsIn K mainGlobals "_law_draw" = some (some (.ref A_law_draw)))
    (l_law_draw : K.lookup A_law_draw = some ⟨oc_law_draw, od_law_draw, .func (PySem.W.fnOf "_law_draw" "_law_draw" (defArgs st__law_draw) (defBody st__law_draw) (defScope st__law_draw) .none kV_law_draw dc_law_draw pm_law_draw an_law_draw cd_law_draw ct_law_draw), sl_law_draw⟩)
    (c_law_draw : PySem.W.codeIn K cd_law_draw "_law_draw" = true)
    (k_law_draw : PySem.W.keepIn K (.ref A_law_draw) = true)
    (a_law_kit : PySem.W.nsIn K mainGlobals "_law_kit" = some (some (.ref A_law_kit)))
    (l_law_kit : K.lookup A_law_kit = some ⟨oc_law_kit, od_law_kit, .func (PySem.W.fnOf "_law_kit" "_law_kit" (defArgs st__law_kit) (defBody st__law_kit) (defScope st__law_kit) .none kV_law_kit dc_law_kit pm_law_kit an_law_kit cd_law_kit ct_law_kit), sl_law_kit⟩)
    (c_law_kit : PySem.W.codeIn K cd_law_kit "_law_kit" = true)
    (k_law_kit : PySem.W.keepIn K (.ref A_law_kit) = true)
    (a_law_any : PySem.W.nsIn K mainGlobals "_law_any" = some (some (.ref A_law_any)))
    (l_law_any : K.lookup A_law_any = some ⟨oc_law_any, od_law_any, .func (PySem.W.fnOf "_law_any" "_law_any" (defArgs st__law_any) (defBody st__law_any) (defScope st__law_any) .none kV_law_any dc_law_any pm_law_any an_law_any cd_law_any ct_law_any), sl_law_any⟩)
    (c_law_any : PySem.W.codeIn K cd_law_any "_law_any" = true)
    (k_law_any : PySem.W.keepIn K (.ref A_law_any) = true)
    (a_law_rises : PySem.W.nsIn K mainGlobals "_law_rises" = some (some (.ref A_law_rises)))
    (l_law_rises : K.lookup A_law_rises = some ⟨oc_law_rises, od_law_rises, .func (PySem.W.fnOf "_law_rises" "_law_rises" (defArgs st__law_rises) (defBody st__law_rises) (defScope st__law_rises) .none kV_law_rises dc_law_rises pm_law_rises an_law_rises cd_law_rises ct_law_rises), sl_law_rises⟩)
    (c_law_rises : PySem.W.codeIn K cd_law_rises "_law_rises" = true)
    (k_law_rises : PySem.W.keepIn K (.ref A_law_rises) = true)
    (ais_integer : PySem.W.nsIn K mainGlobals "is_integer" = some (some (.ref Ais_integer)))
    (lis_integer : K.lookup Ais_integer = some ⟨ocis_integer, odis_integer, .func (PySem.W.fnOf "is_integer" "is_integer" (defArgs st_is_integer) (defBody st_is_integer) (defScope st_is_integer) .none kVis_integer dcis_integer pmis_integer anis_integer cdis_integer ctis_integer), slis_integer⟩)
    (cis_integer : PySem.W.codeIn K cdis_integer "is_integer" = true)
    (kis_integer : PySem.W.keepIn K (.ref Ais_integer) = true)
    (ais_within : PySem.W.nsIn K mainGlobals "is_within" = some (some (.ref Ais_within)))
    (lis_within : K.lookup Ais_within = some ⟨ocis_within, odis_within, .func (PySem.W.fnOf "is_within" "is_within" (defArgs st_is_within) (defBody st_is_within) (defScope st_is_within) .none kVis_within dcis_within pmis_within anis_within cdis_within ctis_within), slis_within⟩)
    (cis_within : PySem.W.codeIn K cdis_within "is_within" = true)
    (kis_within : PySem.W.keepIn K (.ref Ais_within) = true)
    (ais_sized : PySem.W.nsIn K mainGlobals "is_sized" = some (some (.ref Ais_sized)))
    (lis_sized : K.lookup Ais_sized = some ⟨ocis_sized, odis_sized, .func (PySem.W.fnOf "is_sized" "is_sized" (defArgs st_is_sized) (defBody st_is_sized) (defScope st_is_sized) .none kVis_sized dcis_sized pmis_sized anis_sized cdis_sized ctis_sized), slis_sized⟩)
    (cis_sized : PySem.W.codeIn K cdis_sized "is_sized" = true)
    (kis_sized : PySem.W.keepIn K (.ref Ais_sized) = true)
    (aare_pressures : PySem.W.nsIn K mainGlobals "are_pressures" = some (some (.ref Aare_pressures)))
    (lare_pressures : K.lookup Aare_pressures = some ⟨ocare_pressures, odare_pressures, .func (PySem.W.fnOf "are_pressures" "are_pressures" (defArgs st_are_pressures) (defBody st_are_pressures) (defScope st_are_pressures) .none kVare_pressures dcare_pressures pmare_pressures anare_pressures cdare_pressures ctare_pressures), slare_pressures⟩)
    (care_pressures : PySem.W.codeIn K cdare_pressures "are_pressures" = true)
    (kare_pressures : PySem.W.keepIn K (.ref Aare_pressures) = true)
    (ais_kit : PySem.W.nsIn K mainGlobals "is_kit" = some (some (.ref Ais_kit)))
    (lis_kit : K.lookup Ais_kit = some ⟨ocis_kit, odis_kit, .func (PySem.W.fnOf "is_kit" "is_kit" (defArgs st_is_kit) (defBody st_is_kit) (defScope st_is_kit) .none kVis_kit dcis_kit pmis_kit anis_kit cdis_kit ctis_kit), slis_kit⟩)
    (cis_kit : PySem.W.codeIn K cdis_kit "is_kit" = true)
    (kis_kit : PySem.W.keepIn K (.ref Ais_kit) = true)
    (a_law_stretch : PySem.W.nsIn K mainGlobals "_law_stretch" = some (some (.ref A_law_stretch)))
    (l_law_stretch : K.lookup A_law_stretch = some ⟨oc_law_stretch, od_law_stretch, .func (PySem.W.fnOf "_law_stretch" "_law_stretch" (defArgs st__law_stretch) (defBody st__law_stretch) (defScope st__law_stretch) .none kV_law_stretch dc_law_stretch pm_law_stretch an_law_stretch cd_law_stretch ct_law_stretch), sl_law_stretch⟩)
    (c_law_stretch : PySem.W.codeIn K cd_law_stretch "_law_stretch" = true)
    (k_law_stretch : PySem.W.keepIn K (.ref A_law_stretch) = true)
    (acheck_kit : PySem.W.nsIn K mainGlobals "check_kit" = some (some (.ref Acheck_kit)))
    (lcheck_kit : K.lookup Acheck_kit = some ⟨occheck_kit, odcheck_kit, .func (PySem.W.fnOf "check_kit" "check_kit" (defArgs st_check_kit) (defBody st_check_kit) (defScope st_check_kit) .none kVcheck_kit dccheck_kit pmcheck_kit ancheck_kit cdcheck_kit ctcheck_kit), slcheck_kit⟩)
    (ccheck_kit : PySem.W.codeIn K cdcheck_kit "check_kit" = true)
    (kcheck_kit : PySem.W.keepIn K (.ref Acheck_kit) = true)
    (acheck_rises : PySem.W.nsIn K mainGlobals "check_rises" = some (some (.ref Acheck_rises)))
    (lcheck_rises : K.lookup Acheck_rises = some ⟨occheck_rises, odcheck_rises, .func (PySem.W.fnOf "check_rises" "check_rises" (defArgs st_check_rises) (defBody st_check_rises) (defScope st_check_rises) .none kVcheck_rises dccheck_rises pmcheck_rises ancheck_rises cdcheck_rises ctcheck_rises), slcheck_rises⟩)
    (ccheck_rises : PySem.W.codeIn K cdcheck_rises "check_rises" = true)
    (kcheck_rises : PySem.W.keepIn K (.ref Acheck_rises) = true)
    (acheck_flow : PySem.W.nsIn K mainGlobals "check_flow" = some (some (.ref Acheck_flow)))
    (lcheck_flow : K.lookup Acheck_flow = some ⟨occheck_flow, odcheck_flow, .func (PySem.W.fnOf "check_flow" "check_flow" (defArgs st_check_flow) (defBody st_check_flow) (defScope st_check_flow) .none kVcheck_flow dccheck_flow pmcheck_flow ancheck_flow cdcheck_flow ctcheck_flow), slcheck_flow⟩)
    (ccheck_flow : PySem.W.codeIn K cdcheck_flow "check_flow" = true)
    (kcheck_flow : PySem.W.keepIn K (.ref Acheck_flow) = true)
    (acheck_line_of : PySem.W.nsIn K mainGlobals "check_line_of" = some (some (.ref Acheck_line_of)))
    (lcheck_line_of : K.lookup Acheck_line_of = some ⟨occheck_line_of, odcheck_line_of, .func (PySem.W.fnOf "check_line_of" "check_line_of" (defArgs st_check_line_of) (defBody st_check_line_of) (defScope st_check_line_of) .none kVcheck_line_of dccheck_line_of pmcheck_line_of ancheck_line_of cdcheck_line_of ctcheck_line_of), slcheck_line_of⟩)
    (ccheck_line_of : PySem.W.codeIn K cdcheck_line_of "check_line_of" = true)
    (kcheck_line_of : PySem.W.keepIn K (.ref Acheck_line_of) = true)
    (acheck_pressure : PySem.W.nsIn K mainGlobals "check_pressure" = some (some (.ref Acheck_pressure)))
    (lcheck_pressure : K.lookup Acheck_pressure = some ⟨occheck_pressure, odcheck_pressure, .func (PySem.W.fnOf "check_pressure" "check_pressure" (defArgs st_check_pressure) (defBody st_check_pressure) (defScope st_check_pressure) .none kVcheck_pressure dccheck_pressure pmcheck_pressure ancheck_pressure cdcheck_pressure ctcheck_pressure), slcheck_pressure⟩)
    (ccheck_pressure : PySem.W.codeIn K cdcheck_pressure "check_pressure" = true)
    (kcheck_pressure : PySem.W.keepIn K (.ref Acheck_pressure) = true)
    (asums_on : PySem.W.nsIn K mainGlobals "sums_on" = some (some (.ref Asums_on)))
    (lsums_on : K.lookup Asums_on = some ⟨ocsums_on, odsums_on, .func (PySem.W.fnOf "sums_on" "sums_on" (defArgs st_sums_on) (defBody st_sums_on) (defScope st_sums_on) .none kVsums_on dcsums_on pmsums_on ansums_on cdsums_on ctsums_on), slsums_on⟩)
    (csums_on : PySem.W.codeIn K cdsums_on "sums_on" = true)
    (ksums_on : PySem.W.keepIn K (.ref Asums_on) = true)
    (araw_loss : PySem.W.nsIn K mainGlobals "raw_loss" = some (some (.ref Araw_loss)))
    (lraw_loss : K.lookup Araw_loss = some ⟨ocraw_loss, odraw_loss, .func (PySem.W.fnOf "raw_loss" "raw_loss" (defArgs st_raw_loss) (defBody st_raw_loss) (defScope st_raw_loss) .none kVraw_loss dcraw_loss pmraw_loss anraw_loss cdraw_loss ctraw_loss), slraw_loss⟩)
    (craw_loss : PySem.W.codeIn K cdraw_loss "raw_loss" = true)
    (kraw_loss : PySem.W.keepIn K (.ref Araw_loss) = true)
    (araw_stretch : PySem.W.nsIn K mainGlobals "raw_stretch" = some (some (.ref Araw_stretch)))
    (lraw_stretch : K.lookup Araw_stretch = some ⟨ocraw_stretch, odraw_stretch, .func (PySem.W.fnOf "raw_stretch" "raw_stretch" (defArgs st_raw_stretch) (defBody st_raw_stretch) (defScope st_raw_stretch) .none kVraw_stretch dcraw_stretch pmraw_stretch anraw_stretch cdraw_stretch ctraw_stretch), slraw_stretch⟩)
    (craw_stretch : PySem.W.codeIn K cdraw_stretch "raw_stretch" = true)
    (kraw_stretch : PySem.W.keepIn K (.ref Araw_stretch) = true)
    (astretch_told : PySem.W.nsIn K mainGlobals "stretch_told" = some (some (.ref Astretch_told)))
    (lstretch_told : K.lookup Astretch_told = some ⟨ocstretch_told, odstretch_told, .func (PySem.W.fnOf "stretch_told" "stretch_told" (defArgs st_stretch_told) (defBody st_stretch_told) (defScope st_stretch_told) .none kVstretch_told dcstretch_told pmstretch_told anstretch_told cdstretch_told ctstretch_told), slstretch_told⟩)
    (cstretch_told : PySem.W.codeIn K cdstretch_told "stretch_told" = true)
    (kstretch_told : PySem.W.keepIn K (.ref Astretch_told) = true)
    (a_law_bad_kit : PySem.W.nsIn K mainGlobals "_law_bad_kit" = some (some (.ref A_law_bad_kit)))
    (l_law_bad_kit : K.lookup A_law_bad_kit = some ⟨oc_law_bad_kit, od_law_bad_kit, .func (PySem.W.fnOf "_law_bad_kit" "_law_bad_kit" (defArgs st__law_bad_kit) (defBody st__law_bad_kit) (defScope st__law_bad_kit) .none kV_law_bad_kit dc_law_bad_kit pm_law_bad_kit an_law_bad_kit cd_law_bad_kit ct_law_bad_kit), sl_law_bad_kit⟩)
    (c_law_bad_kit : PySem.W.codeIn K cd_law_bad_kit "_law_bad_kit" = true)
    (k_law_bad_kit : PySem.W.keepIn K (.ref A_law_bad_kit) = true)
    (a_law_said : PySem.W.nsIn K mainGlobals "_law_said" = some (some (.ref A_law_said)))
    (l_law_said : K.lookup A_law_said = some ⟨oc_law_said, od_law_said, .func (PySem.W.fnOf "_law_said" "_law_said" (defArgs st__law_said) (defBody st__law_said) (defScope st__law_said) .none kV_law_said dc_law_said pm_law_said an_law_said cd_law_said ct_law_said), sl_law_said⟩)
    (c_law_said : PySem.W.codeIn K cd_law_said "_law_said" = true)
    (k_law_said : PySem.W.keepIn K (.ref A_law_said) = true)
    (acan_burst : PySem.W.nsIn K mainGlobals "can_burst" = some (some (.ref Acan_burst)))
    (lcan_burst : K.lookup Acan_burst = some ⟨occan_burst, odcan_burst, .func (PySem.W.fnOf "can_burst" "can_burst" (defArgs st_can_burst) (defBody st_can_burst) (defScope st_can_burst) .none kVcan_burst dccan_burst pmcan_burst ancan_burst cdcan_burst ctcan_burst), slcan_burst⟩)
    (ccan_burst : PySem.W.codeIn K cdcan_burst "can_burst" = true)
    (kcan_burst : PySem.W.keepIn K (.ref Acan_burst) = true)
    (aloss_of : PySem.W.nsIn K mainGlobals "loss_of" = some (some (.ref Aloss_of)))
    (lloss_of : K.lookup Aloss_of = some ⟨ocloss_of, odloss_of, .func (PySem.W.fnOf "loss_of" "loss_of" (defArgs st_loss_of) (defBody st_loss_of) (defScope st_loss_of) .none kVloss_of dcloss_of pmloss_of anloss_of cdloss_of ctloss_of), slloss_of⟩)
    (closs_of : PySem.W.codeIn K cdloss_of "loss_of" = true)
    (kloss_of : PySem.W.keepIn K (.ref Aloss_of) = true)
    (a_law_refused_right : PySem.W.nsIn K mainGlobals "_law_refused_right" = some (some (.ref A_law_refused_right)))
    (l_law_refused_right : K.lookup A_law_refused_right = some ⟨oc_law_refused_right, od_law_refused_right, .func (PySem.W.fnOf "_law_refused_right" "_law_refused_right" (defArgs st__law_refused_right) (defBody st__law_refused_right) (defScope st__law_refused_right) .none kV_law_refused_right dc_law_refused_right pm_law_refused_right an_law_refused_right (.ref cc_law_refused_right) ct_law_refused_right), sl_law_refused_right⟩)
    (c_law_refused_right : PySem.W.codeIn K (.ref cc_law_refused_right) "_law_refused_right" = true)
    (k_law_refused_right : PySem.W.keepIn K (.ref A_law_refused_right) = true)
    (lc_law_refused_right : K.lookup cc_law_refused_right = some ⟨occ_law_refused_right, odc_law_refused_right, .fields vsc_law_refused_right, oslc_law_refused_right⟩)
    (hv_law_refused_right : vsc_law_refused_right[11]? = some (.ref Pt_law_refused_right))
    (nP_law_refused_right : K.lookup Pt_law_refused_right = none)
    (hr_law_refused_right : (recsOf q).find? (fun e => e.name == ("_law_refused_right" : Str)) = some dr_law_refused_right)
    (a_law_asked : PySem.W.nsIn K mainGlobals "_law_asked" = some (some (.ref A_law_asked)))
    (l_law_asked : K.lookup A_law_asked = some ⟨oc_law_asked, od_law_asked, .func (PySem.W.fnOf "_law_asked" "_law_asked" (defArgs st__law_asked) (defBody st__law_asked) (defScope st__law_asked) .none kV_law_asked dc_law_asked pm_law_asked an_law_asked cd_law_asked ct_law_asked), sl_law_asked⟩)
    (c_law_asked : PySem.W.codeIn K cd_law_asked "_law_asked" = true)
    (k_law_asked : PySem.W.keepIn K (.ref A_law_asked) = true)
    (alaw : PySem.W.nsIn K mainGlobals "law" = some (some (.ref Alaw)))
    (llaw : K.lookup Alaw = some ⟨oclaw, odlaw, .func (PySem.W.fnOf "law" "law" (defArgs st_law) (defBody st_law) (defScope st_law) .none kVlaw dclaw pmlaw anlaw cdlaw ctlaw), sllaw⟩)
    (claw : PySem.W.codeIn K cdlaw "law" = true)
    (klaw : PySem.W.keepIn K (.ref Alaw) = true)
    (hu_law_refused_right : ∀ p ∈ ([(Pt_law_refused_right, lamQ "_law_refused_right")] : List (Addr × Str)), p.1 = Pt_law_refused_right → p.2 = lamQ "_law_refused_right")
    (hL : noListK K = true)
    (zint : PySem.W.nsIn K mainGlobals "int" = some none)
    (zabs : PySem.W.nsIn K mainGlobals "abs" = some none)
    (zlen : PySem.W.nsIn K mainGlobals "len" = some none)
    (zrange : PySem.W.nsIn K mainGlobals "range" = some none)
    (zmax : PySem.W.nsIn K mainGlobals "max" = some none)
    (ztuple : PySem.W.nsIn K mainGlobals "tuple" = some none)
    (zisinstance : PySem.W.nsIn K mainGlobals "isinstance" = some none)
    (zbool : PySem.W.nsIn K mainGlobals "bool" = some none)
    (zall : PySem.W.nsIn K mainGlobals "all" = some none)
    (zzip : PySem.W.nsIn K mainGlobals "zip" = some none)
    (zmin : PySem.W.nsIn K mainGlobals "min" = some none)
    (zlist : PySem.W.nsIn K mainGlobals "list" = some none)
    (zValueError : PySem.W.nsIn K mainGlobals "ValueError" = some none)
    (zenumerate : PySem.W.nsIn K mainGlobals "enumerate" = some none)
    (iLEAST_FLOWS : PySem.W.nsIn K mainGlobals "LEAST_FLOWS" = some (some (.int 2 tLEAST_FLOWS)))
    (iMOST_FLOWS : PySem.W.nsIn K mainGlobals "MOST_FLOWS" = some (some (.int 41 tMOST_FLOWS)))
    (iMOST_PRESSURE : PySem.W.nsIn K mainGlobals "MOST_PRESSURE" = some (some (.int 1000 tMOST_PRESSURE)))
    (iMOST_RISES : PySem.W.nsIn K mainGlobals "MOST_RISES" = some (some (.int 20 tMOST_RISES)))
    (iMOST_RISE : PySem.W.nsIn K mainGlobals "MOST_RISE" = some (some (.int 100 tMOST_RISE)))
    (iMOST_BESIDE : PySem.W.nsIn K mainGlobals "MOST_BESIDE" = some (some (.int 4 tMOST_BESIDE)))
    (eaNoKit : PySem.W.nsIn K mainGlobals "NoKit" = some (some (.ref CNoKit)))
    (eqNoKit : PySem.W.excIn K CNoKit [.type "ValueError", .type "Exception", .type "BaseException", .type "object"] "ValueError.__new__" = true)
    (ekNoKit : PySem.W.keepIn K (.ref CNoKit) = true)
    (ebNoKit : PySem.W.subIn K (.ref CNoKit) (.type "BaseException") = some true)
    (etNoKit : PySem.W.typeIn K (.ref CNoKit) = some (.type "type"))
    (eaNoRises : PySem.W.nsIn K mainGlobals "NoRises" = some (some (.ref CNoRises)))
    (eqNoRises : PySem.W.excIn K CNoRises [.type "ValueError", .type "Exception", .type "BaseException", .type "object"] "ValueError.__new__" = true)
    (ekNoRises : PySem.W.keepIn K (.ref CNoRises) = true)
    (ebNoRises : PySem.W.subIn K (.ref CNoRises) (.type "BaseException") = some true)
    (etNoRises : PySem.W.typeIn K (.ref CNoRises) = some (.type "type"))
    (eaNoFlow : PySem.W.nsIn K mainGlobals "NoFlow" = some (some (.ref CNoFlow)))
    (eqNoFlow : PySem.W.excIn K CNoFlow [.type "ValueError", .type "Exception", .type "BaseException", .type "object"] "ValueError.__new__" = true)
    (ekNoFlow : PySem.W.keepIn K (.ref CNoFlow) = true)
    (ebNoFlow : PySem.W.subIn K (.ref CNoFlow) (.type "BaseException") = some true)
    (etNoFlow : PySem.W.typeIn K (.ref CNoFlow) = some (.type "type"))
    (eaNoDue : PySem.W.nsIn K mainGlobals "NoDue" = some (some (.ref CNoDue)))
    (eqNoDue : PySem.W.excIn K CNoDue [.type "ValueError", .type "Exception", .type "BaseException", .type "object"] "ValueError.__new__" = true)
    (ekNoDue : PySem.W.keepIn K (.ref CNoDue) = true)
    (ebNoDue : PySem.W.subIn K (.ref CNoDue) (.type "BaseException") = some true)
    (etNoDue : PySem.W.typeIn K (.ref CNoDue) = some (.type "type"))
    (eaNoSpot : PySem.W.nsIn K mainGlobals "NoSpot" = some (some (.ref CNoSpot)))
    (eqNoSpot : PySem.W.excIn K CNoSpot [.type "ValueError", .type "Exception", .type "BaseException", .type "object"] "ValueError.__new__" = true)
    (ekNoSpot : PySem.W.keepIn K (.ref CNoSpot) = true)
    (ebNoSpot : PySem.W.subIn K (.ref CNoSpot) (.type "BaseException") = some true)
    (etNoSpot : PySem.W.typeIn K (.ref CNoSpot) = some (.type "type"))
    (eaEmberError : PySem.W.nsIn K mainGlobals "EmberError" = some (some (.ref CEmberError)))
    (eqEmberError : PySem.W.excIn K CEmberError [.type "ValueError", .type "Exception", .type "BaseException", .type "object"] "ValueError.__new__" = true)
    (ekEmberError : PySem.W.keepIn K (.ref CEmberError) = true)
    (ebEmberError : PySem.W.subIn K (.ref CEmberError) (.type "BaseException") = some true)
    (etEmberError : PySem.W.typeIn K (.ref CEmberError) = some (.type "type"))
    (eaNoNumber : PySem.W.nsIn K mainGlobals "NoNumber" = some (some (.ref CNoNumber)))
    (eqNoNumber : PySem.W.excIn K CNoNumber [.type "ValueError", .type "Exception", .type "BaseException", .type "object"] "ValueError.__new__" = true)
    (ekNoNumber : PySem.W.keepIn K (.ref CNoNumber) = true)
    (ebNoNumber : PySem.W.subIn K (.ref CNoNumber) (.type "BaseException") = some true)
    (etNoNumber : PySem.W.typeIn K (.ref CNoNumber) = some (.type "type"))
    (vx0 : PySem.W.exmOne K (.ref CNoKit) (.ref CEmberError) = some true)
    (vk0 : PySem.W.kitOne K (.ref CNoKit) (.ref CEmberError) = some true)
    (vx1 : PySem.W.exmOne K (.ref CNoKit) (.ref CNoDue) = some false)
    (vk1 : PySem.W.kitOne K (.ref CNoKit) (.ref CNoDue) = some false)
    (vx2 : PySem.W.exmOne K (.ref CNoKit) (.ref CNoFlow) = some false)
    (vk2 : PySem.W.kitOne K (.ref CNoKit) (.ref CNoFlow) = some false)
    (vx3 : PySem.W.exmOne K (.ref CNoKit) (.ref CNoKit) = some true)
    (vk3 : PySem.W.kitOne K (.ref CNoKit) (.ref CNoKit) = some true)
    (vx4 : PySem.W.exmOne K (.ref CNoKit) (.ref CNoNumber) = some false)
    (vk4 : PySem.W.kitOne K (.ref CNoKit) (.ref CNoNumber) = some false)
    (vx5 : PySem.W.exmOne K (.ref CNoKit) (.ref CNoRises) = some false)
    (vk5 : PySem.W.kitOne K (.ref CNoKit) (.ref CNoRises) = some false)
    (vx6 : PySem.W.exmOne K (.ref CNoKit) (.ref CNoSpot) = some false)
    (vk6 : PySem.W.kitOne K (.ref CNoKit) (.ref CNoSpot) = some false)
    (vx7 : PySem.W.exmOne K (.ref CNoRises) (.ref CEmberError) = some true)
    (vk7 : PySem.W.kitOne K (.ref CNoRises) (.ref CEmberError) = some true)
    (vx8 : PySem.W.exmOne K (.ref CNoRises) (.ref CNoDue) = some false)
    (vk8 : PySem.W.kitOne K (.ref CNoRises) (.ref CNoDue) = some false)
    (vx9 : PySem.W.exmOne K (.ref CNoRises) (.ref CNoFlow) = some false)
    (vk9 : PySem.W.kitOne K (.ref CNoRises) (.ref CNoFlow) = some false)
    (vx10 : PySem.W.exmOne K (.ref CNoRises) (.ref CNoKit) = some false)
    (vk10 : PySem.W.kitOne K (.ref CNoRises) (.ref CNoKit) = some false)
    (vx11 : PySem.W.exmOne K (.ref CNoRises) (.ref CNoNumber) = some false)
    (vk11 : PySem.W.kitOne K (.ref CNoRises) (.ref CNoNumber) = some false)
    (vx12 : PySem.W.exmOne K (.ref CNoRises) (.ref CNoRises) = some true)
    (vk12 : PySem.W.kitOne K (.ref CNoRises) (.ref CNoRises) = some true)
    (vx13 : PySem.W.exmOne K (.ref CNoRises) (.ref CNoSpot) = some false)
    (vk13 : PySem.W.kitOne K (.ref CNoRises) (.ref CNoSpot) = some false)
    (vx14 : PySem.W.exmOne K (.ref CNoFlow) (.ref CEmberError) = some true)
    (vk14 : PySem.W.kitOne K (.ref CNoFlow) (.ref CEmberError) = some true)
    (vx15 : PySem.W.exmOne K (.ref CNoFlow) (.ref CNoDue) = some false)
    (vk15 : PySem.W.kitOne K (.ref CNoFlow) (.ref CNoDue) = some false)
    (vx16 : PySem.W.exmOne K (.ref CNoFlow) (.ref CNoFlow) = some true)
    (vk16 : PySem.W.kitOne K (.ref CNoFlow) (.ref CNoFlow) = some true)
    (vx17 : PySem.W.exmOne K (.ref CNoFlow) (.ref CNoKit) = some false)
    (vk17 : PySem.W.kitOne K (.ref CNoFlow) (.ref CNoKit) = some false)
    (vx18 : PySem.W.exmOne K (.ref CNoFlow) (.ref CNoNumber) = some false)
    (vk18 : PySem.W.kitOne K (.ref CNoFlow) (.ref CNoNumber) = some false)
    (vx19 : PySem.W.exmOne K (.ref CNoFlow) (.ref CNoRises) = some false)
    (vk19 : PySem.W.kitOne K (.ref CNoFlow) (.ref CNoRises) = some false)
    (vx20 : PySem.W.exmOne K (.ref CNoFlow) (.ref CNoSpot) = some false)
    (vk20 : PySem.W.kitOne K (.ref CNoFlow) (.ref CNoSpot) = some false)
    (vx21 : PySem.W.exmOne K (.ref CNoDue) (.ref CEmberError) = some true)
    (vk21 : PySem.W.kitOne K (.ref CNoDue) (.ref CEmberError) = some true)
    (vx22 : PySem.W.exmOne K (.ref CNoDue) (.ref CNoDue) = some true)
    (vk22 : PySem.W.kitOne K (.ref CNoDue) (.ref CNoDue) = some true)
    (vx23 : PySem.W.exmOne K (.ref CNoDue) (.ref CNoFlow) = some false)
    (vk23 : PySem.W.kitOne K (.ref CNoDue) (.ref CNoFlow) = some false)
    (vx24 : PySem.W.exmOne K (.ref CNoDue) (.ref CNoKit) = some false)
    (vk24 : PySem.W.kitOne K (.ref CNoDue) (.ref CNoKit) = some false)
    (vx25 : PySem.W.exmOne K (.ref CNoDue) (.ref CNoNumber) = some false)
    (vk25 : PySem.W.kitOne K (.ref CNoDue) (.ref CNoNumber) = some false)
    (vx26 : PySem.W.exmOne K (.ref CNoDue) (.ref CNoRises) = some false)
    (vk26 : PySem.W.kitOne K (.ref CNoDue) (.ref CNoRises) = some false)
    (vx27 : PySem.W.exmOne K (.ref CNoDue) (.ref CNoSpot) = some false)
    (vk27 : PySem.W.kitOne K (.ref CNoDue) (.ref CNoSpot) = some false)
    (vx28 : PySem.W.exmOne K (.ref CNoSpot) (.ref CEmberError) = some true)
    (vk28 : PySem.W.kitOne K (.ref CNoSpot) (.ref CEmberError) = some true)
    (vx29 : PySem.W.exmOne K (.ref CNoSpot) (.ref CNoDue) = some false)
    (vk29 : PySem.W.kitOne K (.ref CNoSpot) (.ref CNoDue) = some false)
    (vx30 : PySem.W.exmOne K (.ref CNoSpot) (.ref CNoFlow) = some false)
    (vk30 : PySem.W.kitOne K (.ref CNoSpot) (.ref CNoFlow) = some false)
    (vx31 : PySem.W.exmOne K (.ref CNoSpot) (.ref CNoKit) = some false)
    (vk31 : PySem.W.kitOne K (.ref CNoSpot) (.ref CNoKit) = some false)
    (vx32 : PySem.W.exmOne K (.ref CNoSpot) (.ref CNoNumber) = some false)
    (vk32 : PySem.W.kitOne K (.ref CNoSpot) (.ref CNoNumber) = some false)
    (vx33 : PySem.W.exmOne K (.ref CNoSpot) (.ref CNoRises) = some false)
    (vk33 : PySem.W.kitOne K (.ref CNoSpot) (.ref CNoRises) = some false)
    (vx34 : PySem.W.exmOne K (.ref CNoSpot) (.ref CNoSpot) = some true)
    (vk34 : PySem.W.kitOne K (.ref CNoSpot) (.ref CNoSpot) = some true)
    (vx35 : PySem.W.exmOne K (.ref CNoNumber) (.ref CEmberError) = some true)
    (vk35 : PySem.W.kitOne K (.ref CNoNumber) (.ref CEmberError) = some true)
    (vx36 : PySem.W.exmOne K (.ref CNoNumber) (.ref CNoDue) = some false)
    (vk36 : PySem.W.kitOne K (.ref CNoNumber) (.ref CNoDue) = some false)
    (vx37 : PySem.W.exmOne K (.ref CNoNumber) (.ref CNoFlow) = some false)
    (vk37 : PySem.W.kitOne K (.ref CNoNumber) (.ref CNoFlow) = some false)
    (vx38 : PySem.W.exmOne K (.ref CNoNumber) (.ref CNoKit) = some false)
    (vk38 : PySem.W.kitOne K (.ref CNoNumber) (.ref CNoKit) = some false)
    (vx39 : PySem.W.exmOne K (.ref CNoNumber) (.ref CNoNumber) = some true)
    (vk39 : PySem.W.kitOne K (.ref CNoNumber) (.ref CNoNumber) = some true)
    (vx40 : PySem.W.exmOne K (.ref CNoNumber) (.ref CNoRises) = some false)
    (vk40 : PySem.W.kitOne K (.ref CNoNumber) (.ref CNoRises) = some false)
    (vx41 : PySem.W.exmOne K (.ref CNoNumber) (.ref CNoSpot) = some false)
    (vk41 : PySem.W.kitOne K (.ref CNoNumber) (.ref CNoSpot) = some false)
    (vvNoKit : PySem.W.kitOne K (.ref CNoKit) (.type "ValueError") = some true)
    (vcNoKit : ExcC K CNoKit)
    (vvNoRises : PySem.W.kitOne K (.ref CNoRises) (.type "ValueError") = some true)
    (vcNoRises : ExcC K CNoRises)
    (vvNoFlow : PySem.W.kitOne K (.ref CNoFlow) (.type "ValueError") = some true)
    (vcNoFlow : ExcC K CNoFlow)
    (vvNoDue : PySem.W.kitOne K (.ref CNoDue) (.type "ValueError") = some true)
    (vcNoDue : ExcC K CNoDue)
    (vvNoSpot : PySem.W.kitOne K (.ref CNoSpot) (.type "ValueError") = some true)
    (vcNoSpot : ExcC K CNoSpot)
    (vvNoNumber : PySem.W.kitOne K (.ref CNoNumber) (.type "ValueError") = some true)
    (vcNoNumber : ExcC K CNoNumber)
    (plain : ∀ ns : List Int, ns.length ≤ 63 → (∀ z ∈ ns, Builtin.Int.intBits z ≤ 1048576) → ∃ μ, F_law [.d (.list (ns.map .int))] [] = .ok (.d (.bool true)) μ) :
    LamX.LawAtS l w K (L2.CX l.prog w) 11 63 "script" mg fa h := by
  have N := T.g
  have e := hfa.symm.trans (PySem.W.mg_of X N alaw)
  cases e
  have g : G mg := ⟨PySem.W.mg_none_of X N zint, PySem.W.mg_none_of X N zabs, PySem.W.mg_none_of X N zlen, PySem.W.mg_none_of X N zrange, PySem.W.mg_none_of X N zmax, PySem.W.mg_none_of X N ztuple, PySem.W.mg_none_of X N zisinstance, PySem.W.mg_none_of X N zbool, PySem.W.mg_none_of X N zall, PySem.W.mg_none_of X N zzip, PySem.W.mg_none_of X N zmin, PySem.W.mg_none_of X N zlist, PySem.W.mg_none_of X N zValueError, PySem.W.mg_none_of X N zenumerate, ⟨_, PySem.W.mg_of X N iLEAST_FLOWS⟩, ⟨_, PySem.W.mg_of X N iMOST_FLOWS⟩, ⟨_, PySem.W.mg_of X N iMOST_PRESSURE⟩, ⟨_, PySem.W.mg_of X N iMOST_RISES⟩, ⟨_, PySem.W.mg_of X N iMOST_RISE⟩, ⟨_, PySem.W.mg_of X N iMOST_BESIDE⟩⟩
  have e_NoKit : Exc0 K mg "NoKit" := ⟨CNoKit, PySem.W.mg_of X N eaNoKit, eqNoKit, ekNoKit, ebNoKit, etNoKit⟩
  have e_NoRises : Exc0 K mg "NoRises" := ⟨CNoRises, PySem.W.mg_of X N eaNoRises, eqNoRises, ekNoRises, ebNoRises, etNoRises⟩
  have e_NoFlow : Exc0 K mg "NoFlow" := ⟨CNoFlow, PySem.W.mg_of X N eaNoFlow, eqNoFlow, ekNoFlow, ebNoFlow, etNoFlow⟩
  have e_NoDue : Exc0 K mg "NoDue" := ⟨CNoDue, PySem.W.mg_of X N eaNoDue, eqNoDue, ekNoDue, ebNoDue, etNoDue⟩
  have e_NoSpot : Exc0 K mg "NoSpot" := ⟨CNoSpot, PySem.W.mg_of X N eaNoSpot, eqNoSpot, ekNoSpot, ebNoSpot, etNoSpot⟩
  have e_EmberError : Exc0 K mg "EmberError" := ⟨CEmberError, PySem.W.mg_of X N eaEmberError, eqEmberError, ekEmberError, ebEmberError, etEmberError⟩
  have e_NoNumber : Exc0 K mg "NoNumber" := ⟨CNoNumber, PySem.W.mg_of X N eaNoNumber, eqNoNumber, ekNoNumber, ebNoNumber, etNoNumber⟩
  have hsb : SubB K mg known hds sb := by
    refine ⟨?_, ?_, ?_, ?_⟩
    · intro x hx h hh Cx Ch h1 h2
      simp only [known, List.mem_cons, List.not_mem_nil, or_false] at hx
      simp only [hds, List.mem_cons, List.not_mem_nil, or_false] at hh
      rcases hx with rfl | rfl | rfl | rfl | rfl | rfl <;> rcases hh with rfl | rfl | rfl | rfl | rfl | rfl | rfl
      · rw [PySem.W.mg_of X N eaNoKit] at h1; cases h1; rw [PySem.W.mg_of X N eaEmberError] at h2; cases h2; exact vx0
      · rw [PySem.W.mg_of X N eaNoKit] at h1; cases h1; rw [PySem.W.mg_of X N eaNoDue] at h2; cases h2; exact vx1
      · rw [PySem.W.mg_of X N eaNoKit] at h1; cases h1; rw [PySem.W.mg_of X N eaNoFlow] at h2; cases h2; exact vx2
      · rw [PySem.W.mg_of X N eaNoKit] at h1; cases h1; rw [PySem.W.mg_of X N eaNoKit] at h2; cases h2; exact vx3
      · rw [PySem.W.mg_of X N eaNoKit] at h1; cases h1; rw [PySem.W.mg_of X N eaNoNumber] at h2; cases h2; exact vx4
      · rw [PySem.W.mg_of X N eaNoKit] at h1; cases h1; rw [PySem.W.mg_of X N eaNoRises] at h2; cases h2; exact vx5
      · rw [PySem.W.mg_of X N eaNoKit] at h1; cases h1; rw [PySem.W.mg_of X N eaNoSpot] at h2; cases h2; exact vx6
      · rw [PySem.W.mg_of X N eaNoRises] at h1; cases h1; rw [PySem.W.mg_of X N eaEmberError] at h2; cases h2; exact vx7
      · rw [PySem.W.mg_of X N eaNoRises] at h1; cases h1; rw [PySem.W.mg_of X N eaNoDue] at h2; cases h2; exact vx8
      · rw [PySem.W.mg_of X N eaNoRises] at h1; cases h1; rw [PySem.W.mg_of X N eaNoFlow] at h2; cases h2; exact vx9
      · rw [PySem.W.mg_of X N eaNoRises] at h1; cases h1; rw [PySem.W.mg_of X N eaNoKit] at h2; cases h2; exact vx10
      · rw [PySem.W.mg_of X N eaNoRises] at h1; cases h1; rw [PySem.W.mg_of X N eaNoNumber] at h2; cases h2; exact vx11
      · rw [PySem.W.mg_of X N eaNoRises] at h1; cases h1; rw [PySem.W.mg_of X N eaNoRises] at h2; cases h2; exact vx12
      · rw [PySem.W.mg_of X N eaNoRises] at h1; cases h1; rw [PySem.W.mg_of X N eaNoSpot] at h2; cases h2; exact vx13
      · rw [PySem.W.mg_of X N eaNoFlow] at h1; cases h1; rw [PySem.W.mg_of X N eaEmberError] at h2; cases h2; exact vx14
      · rw [PySem.W.mg_of X N eaNoFlow] at h1; cases h1; rw [PySem.W.mg_of X N eaNoDue] at h2; cases h2; exact vx15
      · rw [PySem.W.mg_of X N eaNoFlow] at h1; cases h1; rw [PySem.W.mg_of X N eaNoFlow] at h2; cases h2; exact vx16
      · rw [PySem.W.mg_of X N eaNoFlow] at h1; cases h1; rw [PySem.W.mg_of X N eaNoKit] at h2; cases h2; exact vx17
      · rw [PySem.W.mg_of X N eaNoFlow] at h1; cases h1; rw [PySem.W.mg_of X N eaNoNumber] at h2; cases h2; exact vx18
      · rw [PySem.W.mg_of X N eaNoFlow] at h1; cases h1; rw [PySem.W.mg_of X N eaNoRises] at h2; cases h2; exact vx19
      · rw [PySem.W.mg_of X N eaNoFlow] at h1; cases h1; rw [PySem.W.mg_of X N eaNoSpot] at h2; cases h2; exact vx20
      · rw [PySem.W.mg_of X N eaNoDue] at h1; cases h1; rw [PySem.W.mg_of X N eaEmberError] at h2; cases h2; exact vx21
      · rw [PySem.W.mg_of X N eaNoDue] at h1; cases h1; rw [PySem.W.mg_of X N eaNoDue] at h2; cases h2; exact vx22
      · rw [PySem.W.mg_of X N eaNoDue] at h1; cases h1; rw [PySem.W.mg_of X N eaNoFlow] at h2; cases h2; exact vx23
      · rw [PySem.W.mg_of X N eaNoDue] at h1; cases h1; rw [PySem.W.mg_of X N eaNoKit] at h2; cases h2; exact vx24
      · rw [PySem.W.mg_of X N eaNoDue] at h1; cases h1; rw [PySem.W.mg_of X N eaNoNumber] at h2; cases h2; exact vx25
      · rw [PySem.W.mg_of X N eaNoDue] at h1; cases h1; rw [PySem.W.mg_of X N eaNoRises] at h2; cases h2; exact vx26
      · rw [PySem.W.mg_of X N eaNoDue] at h1; cases h1; rw [PySem.W.mg_of X N eaNoSpot] at h2; cases h2; exact vx27
      · rw [PySem.W.mg_of X N eaNoSpot] at h1; cases h1; rw [PySem.W.mg_of X N eaEmberError] at h2; cases h2; exact vx28
      · rw [PySem.W.mg_of X N eaNoSpot] at h1; cases h1; rw [PySem.W.mg_of X N eaNoDue] at h2; cases h2; exact vx29
      · rw [PySem.W.mg_of X N eaNoSpot] at h1; cases h1; rw [PySem.W.mg_of X N eaNoFlow] at h2; cases h2; exact vx30
      · rw [PySem.W.mg_of X N eaNoSpot] at h1; cases h1; rw [PySem.W.mg_of X N eaNoKit] at h2; cases h2; exact vx31
      · rw [PySem.W.mg_of X N eaNoSpot] at h1; cases h1; rw [PySem.W.mg_of X N eaNoNumber] at h2; cases h2; exact vx32
      · rw [PySem.W.mg_of X N eaNoSpot] at h1; cases h1; rw [PySem.W.mg_of X N eaNoRises] at h2; cases h2; exact vx33
      · rw [PySem.W.mg_of X N eaNoSpot] at h1; cases h1; rw [PySem.W.mg_of X N eaNoSpot] at h2; cases h2; exact vx34
      · rw [PySem.W.mg_of X N eaNoNumber] at h1; cases h1; rw [PySem.W.mg_of X N eaEmberError] at h2; cases h2; exact vx35
      · rw [PySem.W.mg_of X N eaNoNumber] at h1; cases h1; rw [PySem.W.mg_of X N eaNoDue] at h2; cases h2; exact vx36
      · rw [PySem.W.mg_of X N eaNoNumber] at h1; cases h1; rw [PySem.W.mg_of X N eaNoFlow] at h2; cases h2; exact vx37
      · rw [PySem.W.mg_of X N eaNoNumber] at h1; cases h1; rw [PySem.W.mg_of X N eaNoKit] at h2; cases h2; exact vx38
      · rw [PySem.W.mg_of X N eaNoNumber] at h1; cases h1; rw [PySem.W.mg_of X N eaNoNumber] at h2; cases h2; exact vx39
      · rw [PySem.W.mg_of X N eaNoNumber] at h1; cases h1; rw [PySem.W.mg_of X N eaNoRises] at h2; cases h2; exact vx40
      · rw [PySem.W.mg_of X N eaNoNumber] at h1; cases h1; rw [PySem.W.mg_of X N eaNoSpot] at h2; cases h2; exact vx41
    · intro x hx h hh Cx Ch h1 h2
      simp only [known, List.mem_cons, List.not_mem_nil, or_false] at hx
      simp only [hds, List.mem_cons, List.not_mem_nil, or_false] at hh
      rcases hx with rfl | rfl | rfl | rfl | rfl | rfl <;> rcases hh with rfl | rfl | rfl | rfl | rfl | rfl | rfl
      · rw [PySem.W.mg_of X N eaNoKit] at h1; cases h1; rw [PySem.W.mg_of X N eaEmberError] at h2; cases h2; exact vk0
      · rw [PySem.W.mg_of X N eaNoKit] at h1; cases h1; rw [PySem.W.mg_of X N eaNoDue] at h2; cases h2; exact vk1
      · rw [PySem.W.mg_of X N eaNoKit] at h1; cases h1; rw [PySem.W.mg_of X N eaNoFlow] at h2; cases h2; exact vk2
      · rw [PySem.W.mg_of X N eaNoKit] at h1; cases h1; rw [PySem.W.mg_of X N eaNoKit] at h2; cases h2; exact vk3
      · rw [PySem.W.mg_of X N eaNoKit] at h1; cases h1; rw [PySem.W.mg_of X N eaNoNumber] at h2; cases h2; exact vk4
      · rw [PySem.W.mg_of X N eaNoKit] at h1; cases h1; rw [PySem.W.mg_of X N eaNoRises] at h2; cases h2; exact vk5
      · rw [PySem.W.mg_of X N eaNoKit] at h1; cases h1; rw [PySem.W.mg_of X N eaNoSpot] at h2; cases h2; exact vk6
      · rw [PySem.W.mg_of X N eaNoRises] at h1; cases h1; rw [PySem.W.mg_of X N eaEmberError] at h2; cases h2; exact vk7
      · rw [PySem.W.mg_of X N eaNoRises] at h1; cases h1; rw [PySem.W.mg_of X N eaNoDue] at h2; cases h2; exact vk8
      · rw [PySem.W.mg_of X N eaNoRises] at h1; cases h1; rw [PySem.W.mg_of X N eaNoFlow] at h2; cases h2; exact vk9
      · rw [PySem.W.mg_of X N eaNoRises] at h1; cases h1; rw [PySem.W.mg_of X N eaNoKit] at h2; cases h2; exact vk10
      · rw [PySem.W.mg_of X N eaNoRises] at h1; cases h1; rw [PySem.W.mg_of X N eaNoNumber] at h2; cases h2; exact vk11
      · rw [PySem.W.mg_of X N eaNoRises] at h1; cases h1; rw [PySem.W.mg_of X N eaNoRises] at h2; cases h2; exact vk12
      · rw [PySem.W.mg_of X N eaNoRises] at h1; cases h1; rw [PySem.W.mg_of X N eaNoSpot] at h2; cases h2; exact vk13
      · rw [PySem.W.mg_of X N eaNoFlow] at h1; cases h1; rw [PySem.W.mg_of X N eaEmberError] at h2; cases h2; exact vk14
      · rw [PySem.W.mg_of X N eaNoFlow] at h1; cases h1; rw [PySem.W.mg_of X N eaNoDue] at h2; cases h2; exact vk15
      · rw [PySem.W.mg_of X N eaNoFlow] at h1; cases h1; rw [PySem.W.mg_of X N eaNoFlow] at h2; cases h2; exact vk16
      · rw [PySem.W.mg_of X N eaNoFlow] at h1; cases h1; rw [PySem.W.mg_of X N eaNoKit] at h2; cases h2; exact vk17
      · rw [PySem.W.mg_of X N eaNoFlow] at h1; cases h1; rw [PySem.W.mg_of X N eaNoNumber] at h2; cases h2; exact vk18
      · rw [PySem.W.mg_of X N eaNoFlow] at h1; cases h1; rw [PySem.W.mg_of X N eaNoRises] at h2; cases h2; exact vk19
      · rw [PySem.W.mg_of X N eaNoFlow] at h1; cases h1; rw [PySem.W.mg_of X N eaNoSpot] at h2; cases h2; exact vk20
      · rw [PySem.W.mg_of X N eaNoDue] at h1; cases h1; rw [PySem.W.mg_of X N eaEmberError] at h2; cases h2; exact vk21
      · rw [PySem.W.mg_of X N eaNoDue] at h1; cases h1; rw [PySem.W.mg_of X N eaNoDue] at h2; cases h2; exact vk22
      · rw [PySem.W.mg_of X N eaNoDue] at h1; cases h1; rw [PySem.W.mg_of X N eaNoFlow] at h2; cases h2; exact vk23
      · rw [PySem.W.mg_of X N eaNoDue] at h1; cases h1; rw [PySem.W.mg_of X N eaNoKit] at h2; cases h2; exact vk24
      · rw [PySem.W.mg_of X N eaNoDue] at h1; cases h1; rw [PySem.W.mg_of X N eaNoNumber] at h2; cases h2; exact vk25
      · rw [PySem.W.mg_of X N eaNoDue] at h1; cases h1; rw [PySem.W.mg_of X N eaNoRises] at h2; cases h2; exact vk26
      · rw [PySem.W.mg_of X N eaNoDue] at h1; cases h1; rw [PySem.W.mg_of X N eaNoSpot] at h2; cases h2; exact vk27
      · rw [PySem.W.mg_of X N eaNoSpot] at h1; cases h1; rw [PySem.W.mg_of X N eaEmberError] at h2; cases h2; exact vk28
      · rw [PySem.W.mg_of X N eaNoSpot] at h1; cases h1; rw [PySem.W.mg_of X N eaNoDue] at h2; cases h2; exact vk29
      · rw [PySem.W.mg_of X N eaNoSpot] at h1; cases h1; rw [PySem.W.mg_of X N eaNoFlow] at h2; cases h2; exact vk30
      · rw [PySem.W.mg_of X N eaNoSpot] at h1; cases h1; rw [PySem.W.mg_of X N eaNoKit] at h2; cases h2; exact vk31
      · rw [PySem.W.mg_of X N eaNoSpot] at h1; cases h1; rw [PySem.W.mg_of X N eaNoNumber] at h2; cases h2; exact vk32
      · rw [PySem.W.mg_of X N eaNoSpot] at h1; cases h1; rw [PySem.W.mg_of X N eaNoRises] at h2; cases h2; exact vk33
      · rw [PySem.W.mg_of X N eaNoSpot] at h1; cases h1; rw [PySem.W.mg_of X N eaNoSpot] at h2; cases h2; exact vk34
      · rw [PySem.W.mg_of X N eaNoNumber] at h1; cases h1; rw [PySem.W.mg_of X N eaEmberError] at h2; cases h2; exact vk35
      · rw [PySem.W.mg_of X N eaNoNumber] at h1; cases h1; rw [PySem.W.mg_of X N eaNoDue] at h2; cases h2; exact vk36
      · rw [PySem.W.mg_of X N eaNoNumber] at h1; cases h1; rw [PySem.W.mg_of X N eaNoFlow] at h2; cases h2; exact vk37
      · rw [PySem.W.mg_of X N eaNoNumber] at h1; cases h1; rw [PySem.W.mg_of X N eaNoKit] at h2; cases h2; exact vk38
      · rw [PySem.W.mg_of X N eaNoNumber] at h1; cases h1; rw [PySem.W.mg_of X N eaNoNumber] at h2; cases h2; exact vk39
      · rw [PySem.W.mg_of X N eaNoNumber] at h1; cases h1; rw [PySem.W.mg_of X N eaNoRises] at h2; cases h2; exact vk40
      · rw [PySem.W.mg_of X N eaNoNumber] at h1; cases h1; rw [PySem.W.mg_of X N eaNoSpot] at h2; cases h2; exact vk41
    · intro x hx Cx h1
      simp only [known, List.mem_cons, List.not_mem_nil, or_false] at hx
      rcases hx with rfl | rfl | rfl | rfl | rfl | rfl
      · rw [PySem.W.mg_of X N eaNoKit] at h1; cases h1; exact vvNoKit
      · rw [PySem.W.mg_of X N eaNoRises] at h1; cases h1; exact vvNoRises
      · rw [PySem.W.mg_of X N eaNoFlow] at h1; cases h1; exact vvNoFlow
      · rw [PySem.W.mg_of X N eaNoDue] at h1; cases h1; exact vvNoDue
      · rw [PySem.W.mg_of X N eaNoSpot] at h1; cases h1; exact vvNoSpot
      · rw [PySem.W.mg_of X N eaNoNumber] at h1; cases h1; exact vvNoNumber
    · intro x hx Cx h1
      simp only [known, List.mem_cons, List.not_mem_nil, or_false] at hx
      rcases hx with rfl | rfl | rfl | rfl | rfl | rfl
      · rw [PySem.W.mg_of X N eaNoKit] at h1; cases h1; exact vcNoKit
      · rw [PySem.W.mg_of X N eaNoRises] at h1; cases h1; exact vcNoRises
      · rw [PySem.W.mg_of X N eaNoFlow] at h1; cases h1; exact vcNoFlow
      · rw [PySem.W.mg_of X N eaNoDue] at h1; cases h1; exact vcNoDue
      · rw [PySem.W.mg_of X N eaNoSpot] at h1; cases h1; exact vcNoSpot
      · rw [PySem.W.mg_of X N eaNoNumber] at h1; cases h1; exact vcNoNumber
  obtain ⟨hC_law_refused_right, hP_law_refused_right⟩ := PySem.W.tab_of T X hr_law_refused_right (tabIn_mk a_law_refused_right l_law_refused_right rfl lc_law_refused_right hv_law_refused_right)
  have F_law_hand := fun_mk (st := st__law_hand) l_law_hand c_law_hand k_law_hand
  have b_law_hand := F_law_hand.binds (ps := ["script"]) fun _ _ _ _ _ _ us hl => match us, hl with | [_], _ => rfl
  have F_law_draw := fun_mk (st := st__law_draw) l_law_draw c_law_draw k_law_draw
  have b_law_draw := F_law_draw.binds (ps := ["hand", "many"]) fun _ _ _ _ _ _ us hl => match us, hl with | [_, _], _ => rfl
  have F_law_kit := fun_mk (st := st__law_kit) l_law_kit c_law_kit k_law_kit
  have b_law_kit := F_law_kit.binds (ps := ["hand"]) fun _ _ _ _ _ _ us hl => match us, hl with | [_], _ => rfl
  have F_law_any := fun_mk (st := st__law_any) l_law_any c_law_any k_law_any
  have b_law_any := F_law_any.binds (ps := ["hand", "some"]) fun _ _ _ _ _ _ us hl => match us, hl with | [_, _], _ => rfl
  have F_law_rises := fun_mk (st := st__law_rises) l_law_rises c_law_rises k_law_rises
  have b_law_rises := F_law_rises.binds (ps := ["hand", "most"]) fun _ _ _ _ _ _ us hl => match us, hl with | [_, _], _ => rfl
  have Fis_integer := fun_mk (st := st_is_integer) lis_integer cis_integer kis_integer
  have bis_integer := Fis_integer.binds (ps := ["thing"]) fun _ _ _ _ _ _ us hl => match us, hl with | [_], _ => rfl
  have Fis_within := fun_mk (st := st_is_within) lis_within cis_within kis_within
  have bis_within := Fis_within.binds (ps := ["thing", "low", "high"]) fun _ _ _ _ _ _ us hl => match us, hl with | [_, _, _], _ => rfl
  have Fis_sized := fun_mk (st := st_is_sized) lis_sized cis_sized kis_sized
  have bis_sized := Fis_sized.binds (ps := ["thing", "low", "high"]) fun _ _ _ _ _ _ us hl => match us, hl with | [_, _, _], _ => rfl
  have Fare_pressures := fun_mk (st := st_are_pressures) lare_pressures care_pressures kare_pressures
  have bare_pressures := Fare_pressures.binds (ps := ["thing"]) fun _ _ _ _ _ _ us hl => match us, hl with | [_], _ => rfl
  have Fis_kit := fun_mk (st := st_is_kit) lis_kit cis_kit kis_kit
  have bis_kit := Fis_kit.binds (ps := ["thing"]) fun _ _ _ _ _ _ us hl => match us, hl with | [_], _ => rfl
  have F_law_stretch := fun_mk (st := st__law_stretch) l_law_stretch c_law_stretch k_law_stretch
  have b_law_stretch := F_law_stretch.binds (ps := ["asked", "one", "other", "due"]) fun _ _ _ _ _ _ us hl => match us, hl with | [_, _, _, _], _ => rfl
  have Fcheck_kit := fun_mk (st := st_check_kit) lcheck_kit ccheck_kit kcheck_kit
  have bcheck_kit := Fcheck_kit.binds (ps := ["kit"]) fun _ _ _ _ _ _ us hl => match us, hl with | [_], _ => rfl
  have Fcheck_rises := fun_mk (st := st_check_rises) lcheck_rises ccheck_rises kcheck_rises
  have bcheck_rises := Fcheck_rises.binds (ps := ["rises"]) fun _ _ _ _ _ _ us hl => match us, hl with | [_], _ => rfl
  have Fcheck_flow := fun_mk (st := st_check_flow) lcheck_flow ccheck_flow kcheck_flow
  have bcheck_flow := Fcheck_flow.binds (ps := ["kit", "flow"]) fun _ _ _ _ _ _ us hl => match us, hl with | [_, _], _ => rfl
  have Fcheck_line_of := fun_mk (st := st_check_line_of) lcheck_line_of ccheck_line_of kcheck_line_of
  have bcheck_line_of := Fcheck_line_of.binds (ps := ["kit", "rises", "flow"]) fun _ _ _ _ _ _ us hl => match us, hl with | [_, _, _], _ => rfl
  have Fcheck_pressure := fun_mk (st := st_check_pressure) lcheck_pressure ccheck_pressure kcheck_pressure
  have bcheck_pressure := Fcheck_pressure.binds (ps := ["due"]) fun _ _ _ _ _ _ us hl => match us, hl with | [_], _ => rfl
  have Fsums_on := fun_mk (st := st_sums_on) lsums_on csums_on ksums_on
  have bsums_on := Fsums_on.binds (ps := ["rises", "loss", "one", "other"]) fun _ _ _ _ _ _ us hl => match us, hl with | [_, _, _, _], _ => rfl
  have Fraw_loss := fun_mk (st := st_raw_loss) lraw_loss craw_loss kraw_loss
  have braw_loss := Fraw_loss.binds (ps := ["kit", "flow", "lines"]) fun _ _ _ _ _ _ us hl => match us, hl with | [_, _, _], _ => rfl
  have Fraw_stretch := fun_mk (st := st_raw_stretch) lraw_stretch craw_stretch kraw_stretch
  have braw_stretch := Fraw_stretch.binds (ps := ["kit", "rises", "flow", "lines", "one", "other", "due"]) fun _ _ _ _ _ _ us hl => match us, hl with | [_, _, _, _, _, _, _], _ => rfl
  have Fstretch_told := fun_mk (st := st_stretch_told) lstretch_told cstretch_told kstretch_told
  have bstretch_told := Fstretch_told.binds (ps := ["kit", "rises", "flow", "one", "other", "due"]) fun _ _ _ _ _ _ us hl => match us, hl with | [_, _, _, _, _, _], _ => rfl
  have F_law_bad_kit := fun_mk (st := st__law_bad_kit) l_law_bad_kit c_law_bad_kit k_law_bad_kit
  have b_law_bad_kit := F_law_bad_kit.binds (ps := ["hand", "kit"]) fun _ _ _ _ _ _ us hl => match us, hl with | [_, _], _ => rfl
  have F_law_said := fun_mk (st := st__law_said) l_law_said c_law_said k_law_said
  have b_law_said := F_law_said.binds (ps := ["call"]) fun _ _ _ _ _ _ us hl => match us, hl with | [_], _ => rfl
  have Fcan_burst := fun_mk (st := st_can_burst) lcan_burst ccan_burst kcan_burst
  have bcan_burst := Fcan_burst.binds (ps := ["kit", "rises", "flow"]) fun _ _ _ _ _ _ us hl => match us, hl with | [_, _, _], _ => rfl
  have Floss_of := fun_mk (st := st_loss_of) lloss_of closs_of kloss_of
  have bloss_of := Floss_of.binds (ps := ["kit", "flow", "lines"]) fun _ _ _ _ _ _ us hl => match us, hl with | [_, _, _], _ => rfl
  have F_law_refused_right := fun_mk (st := st__law_refused_right) l_law_refused_right c_law_refused_right k_law_refused_right
  have b_law_refused_right := F_law_refused_right.binds (ps := ["hand", "kit", "rises"]) fun _ _ _ _ _ _ us hl => match us, hl with | [_, _, _], _ => rfl
  have F_law_asked := fun_mk (st := st__law_asked) l_law_asked c_law_asked k_law_asked
  have b_law_asked := F_law_asked.binds (ps := ["kit", "rises", "flow"]) fun _ _ _ _ _ _ us hl => match us, hl with | [_, _, _], _ => rfl
  refine ⟨PySem.W.fnOf "law" "law" (defArgs st_law) (defBody st_law) (defScope st_law) .none kVlaw dclaw pmlaw anlaw cdlaw ctlaw, [(cc_law_refused_right, Pt_law_refused_right)], spOf (tb0 [(Pt_law_refused_right, lamQ "_law_refused_right")]) K mg 1 F_law, ?_, ?_, ?_, fun s u => .of_eq rfl, fun H a ns hlen hbits hH hS => sp_end hL ?_ hH hS (plain ns hlen hbits), fun base _ _ TB => ?_⟩
  · intro p hp; simp only [List.mem_cons, List.not_mem_nil, or_false] at hp; rcases hp with rfl
    · exact hP_law_refused_right
  · intro p hp; simp only [List.mem_cons, List.not_mem_nil, or_false] at hp; rcases hp with rfl
    · exact nP_law_refused_right
  · intro p hp; simp only [List.mem_cons, List.not_mem_nil, or_false] at hp; rcases hp with rfl
    · exact hC_law_refused_right
  · intro p hp; simp only [List.mem_cons, List.not_mem_nil, or_false] at hp; rcases hp with rfl
    · exact ⟨cc_law_refused_right, by simp⟩
  have G__law_hand := ok__law_hand (P := l.prog) (w := w) (base := base) (T := tb0 [(Pt_law_refused_right, lamQ "_law_refused_right")]) g F_law_hand (PySem.W.mg_of X N a_law_hand) b_law_hand
  have G__law_draw := ok__law_draw (P := l.prog) (w := w) (base := base) (T := tb0 [(Pt_law_refused_right, lamQ "_law_refused_right")]) g F_law_draw (PySem.W.mg_of X N a_law_draw) b_law_draw
  have G__law_kit := ok__law_kit (P := l.prog) (w := w) (base := base) (T := tb0 [(Pt_law_refused_right, lamQ "_law_refused_right")]) g F_law_kit (PySem.W.mg_of X N a_law_kit) b_law_kit G__law_draw
  have G__law_any := ok__law_any (P := l.prog) (w := w) (base := base) (T := tb0 [(Pt_law_refused_right, lamQ "_law_refused_right")]) g F_law_any (PySem.W.mg_of X N a_law_any) b_law_any G__law_draw
  have G__law_rises := ok__law_rises (P := l.prog) (w := w) (base := base) (T := tb0 [(Pt_law_refused_right, lamQ "_law_refused_right")]) g F_law_rises (PySem.W.mg_of X N a_law_rises) b_law_rises G__law_draw G__law_any
  have G_is_integer := ok_is_integer (P := l.prog) (w := w) (base := base) (T := tb0 [(Pt_law_refused_right, lamQ "_law_refused_right")]) g Fis_integer (PySem.W.mg_of X N ais_integer) bis_integer
  have G_is_within := ok_is_within (P := l.prog) (w := w) (base := base) (T := tb0 [(Pt_law_refused_right, lamQ "_law_refused_right")]) g Fis_within (PySem.W.mg_of X N ais_within) bis_within G_is_integer
  have G_is_sized := ok_is_sized (P := l.prog) (w := w) (base := base) (T := tb0 [(Pt_law_refused_right, lamQ "_law_refused_right")]) g Fis_sized (PySem.W.mg_of X N ais_sized) bis_sized
  have G_are_pressures := ok_are_pressures (P := l.prog) (w := w) (base := base) (T := tb0 [(Pt_law_refused_right, lamQ "_law_refused_right")]) g Fare_pressures (PySem.W.mg_of X N aare_pressures) bare_pressures G_is_sized G_is_within
  have G_is_kit := ok_is_kit (P := l.prog) (w := w) (base := base) (T := tb0 [(Pt_law_refused_right, lamQ "_law_refused_right")]) g Fis_kit (PySem.W.mg_of X N ais_kit) bis_kit G_is_sized G_are_pressures G_is_within
  have G__law_stretch := ok__law_stretch (P := l.prog) (w := w) (base := base) (T := tb0 [(Pt_law_refused_right, lamQ "_law_refused_right")]) g F_law_stretch (PySem.W.mg_of X N a_law_stretch) b_law_stretch
  have G_check_kit := ok_check_kit (P := l.prog) (w := w) (base := base) (T := tb0 [(Pt_law_refused_right, lamQ "_law_refused_right")]) g Fcheck_kit (PySem.W.mg_of X N acheck_kit) bcheck_kit G_is_kit e_NoKit
  have G_check_rises := ok_check_rises (P := l.prog) (w := w) (base := base) (T := tb0 [(Pt_law_refused_right, lamQ "_law_refused_right")]) g Fcheck_rises (PySem.W.mg_of X N acheck_rises) bcheck_rises G_is_sized G_is_within e_NoRises
  have G_check_flow := ok_check_flow (P := l.prog) (w := w) (base := base) (T := tb0 [(Pt_law_refused_right, lamQ "_law_refused_right")]) g Fcheck_flow (PySem.W.mg_of X N acheck_flow) bcheck_flow G_is_within e_NoFlow
  have G_check_line_of := ok_check_line_of (P := l.prog) (w := w) (base := base) (T := tb0 [(Pt_law_refused_right, lamQ "_law_refused_right")]) g Fcheck_line_of (PySem.W.mg_of X N acheck_line_of) bcheck_line_of G_check_kit G_check_rises G_check_flow
  have G_check_pressure := ok_check_pressure (P := l.prog) (w := w) (base := base) (T := tb0 [(Pt_law_refused_right, lamQ "_law_refused_right")]) g Fcheck_pressure (PySem.W.mg_of X N acheck_pressure) bcheck_pressure G_is_within e_NoDue
  have G_sums_on := ok_sums_on (P := l.prog) (w := w) (base := base) (T := tb0 [(Pt_law_refused_right, lamQ "_law_refused_right")]) g Fsums_on (PySem.W.mg_of X N asums_on) bsums_on
  have G_raw_loss := ok_raw_loss (P := l.prog) (w := w) (base := base) (T := tb0 [(Pt_law_refused_right, lamQ "_law_refused_right")]) g Fraw_loss (PySem.W.mg_of X N araw_loss) braw_loss
  have G_raw_stretch := ok_raw_stretch (P := l.prog) (w := w) (base := base) (T := tb0 [(Pt_law_refused_right, lamQ "_law_refused_right")]) g Fraw_stretch (PySem.W.mg_of X N araw_stretch) braw_stretch G_sums_on G_raw_loss
  have G_stretch_told := ok_stretch_told (P := l.prog) (w := w) (base := base) (T := tb0 [(Pt_law_refused_right, lamQ "_law_refused_right")]) g Fstretch_told (PySem.W.mg_of X N astretch_told) bstretch_told G_check_line_of G_is_within G_check_pressure G_raw_stretch e_NoSpot
  have G__law_bad_kit := ok__law_bad_kit (P := l.prog) (w := w) (base := base) (T := tb0 [(Pt_law_refused_right, lamQ "_law_refused_right")]) g F_law_bad_kit (PySem.W.mg_of X N a_law_bad_kit) b_law_bad_kit G__law_any
  have G_can_burst := ok_can_burst (P := l.prog) (w := w) (base := base) (T := tb0 [(Pt_law_refused_right, lamQ "_law_refused_right")]) g Fcan_burst (PySem.W.mg_of X N acan_burst) bcan_burst G_check_line_of G_sums_on G_raw_loss
  have G_loss_of := ok_loss_of (P := l.prog) (w := w) (base := base) (T := tb0 [(Pt_law_refused_right, lamQ "_law_refused_right")]) g Floss_of (PySem.W.mg_of X N aloss_of) bloss_of G_check_kit G_check_flow G_is_within G_raw_loss e_NoNumber
  have G__law_refused_right : Callee l.prog w K mg base (tb0 [(Pt_law_refused_right, lamQ "_law_refused_right")]) "_law_refused_right" 3 10 F__law_refused_right := ⟨_, _, _, ok__law_refused_right g G__law_bad_kit G__law_any G_stretch_told G_can_burst G_loss_of G_is_kit e_EmberError e_NoDue e_NoFlow e_NoKit e_NoNumber e_NoRises e_NoSpot hsb (PySem.W.mg_of X N a_law_said) k_law_said l_law_said c_law_said b_law_said l_law_refused_right c_law_refused_right (TB (cc_law_refused_right, Pt_law_refused_right) (by simp)) (by simp [tb0]) hu_law_refused_right, PySem.W.mg_of X N a_law_refused_right, k_law_refused_right, b_law_refused_right⟩
  have G__law_asked := ok__law_asked (P := l.prog) (w := w) (base := base) (T := tb0 [(Pt_law_refused_right, lamQ "_law_refused_right")]) g F_law_asked (PySem.W.mg_of X N a_law_asked) b_law_asked
  exact ok_law g G__law_hand G__law_kit G__law_rises G_is_kit G__law_asked G__law_draw G__law_stretch G_stretch_told G_can_burst G_loss_of G__law_refused_right llaw claw
end L28
open PySem PySem.W PyProof.Rows
theorem PySem.Challenge.cw_emberhall_k28_whole_stretches_of_hose_holds : PySem.Challenge.rw_emberhall_k28_whole_stretches_of_hose.Holds := by
  w_on; o_law; k_head; (case hw => w_witness2)
  k_fill
  refine Em.walk_ofL (l := PySem.Challenge.rw_emberhall_k28_whole_stretches_of_hose) (n := 63) (k := 11) (x := "script") rfl (by decide) rfl ⟨rfl, by decide, by decide⟩ (fun w h Y => by first | exact PySem.W.kIn_of Y | exact PySem.W.km_in_of Y) ?F
  case F =>
    intro w mg mb fa h mean T KX hmg
    refine' L28.all_mk T KX hmg ?a_law_hand ?l_law_hand ?c_law_hand ?k_law_hand ?a_law_draw ?l_law_draw ?c_law_draw ?k_law_draw ?a_law_kit ?l_law_kit ?c_law_kit ?k_law_kit ?a_law_any ?l_law_any ?c_law_any ?k_law_any ?a_law_rises ?l_law_rises ?c_law_rises ?k_law_rises ?ais_integer ?lis_integer ?cis_integer ?kis_integer ?ais_within ?lis_within ?cis_within ?kis_within ?ais_sized ?lis_sized ?cis_sized ?kis_sized ?aare_pressures ?lare_pressures ?care_pressures ?kare_pressures ?ais_kit ?lis_kit ?cis_kit ?kis_kit ?a_law_stretch ?l_law_stretch ?c_law_stretch ?k_law_stretch ?acheck_kit ?lcheck_kit ?ccheck_kit ?kcheck_kit ?acheck_rises ?lcheck_rises ?ccheck_rises ?kcheck_rises ?acheck_flow ?lcheck_flow ?ccheck_flow ?kcheck_flow ?acheck_line_of ?lcheck_line_of ?ccheck_line_of ?kcheck_line_of ?acheck_pressure ?lcheck_pressure ?ccheck_pressure ?kcheck_pressure ?asums_on ?lsums_on ?csums_on ?ksums_on ?araw_loss ?lraw_loss ?craw_loss ?kraw_loss ?araw_stretch ?lraw_stretch ?craw_stretch ?kraw_stretch ?astretch_told ?lstretch_told ?cstretch_told ?kstretch_told ?a_law_bad_kit ?l_law_bad_kit ?c_law_bad_kit ?k_law_bad_kit ?a_law_said ?l_law_said ?c_law_said ?k_law_said ?acan_burst ?lcan_burst ?ccan_burst ?kcan_burst ?aloss_of ?lloss_of ?closs_of ?kloss_of ?a_law_refused_right ?l_law_refused_right ?c_law_refused_right ?k_law_refused_right ?lc_law_refused_right ?hv_law_refused_right ?nP_law_refused_right ?hr_law_refused_right ?a_law_asked ?l_law_asked ?c_law_asked ?k_law_asked ?alaw ?llaw ?claw ?klaw ?hu_law_refused_right ?hL ?zint ?zabs ?zlen ?zrange ?zmax ?ztuple ?zisinstance ?zbool ?zall ?zzip ?zmin ?zlist ?zValueError ?zenumerate ?iLEAST_FLOWS ?iMOST_FLOWS ?iMOST_PRESSURE ?iMOST_RISES ?iMOST_RISE ?iMOST_BESIDE ?eaNoKit ?eqNoKit ?ekNoKit ?ebNoKit ?etNoKit ?eaNoRises ?eqNoRises ?ekNoRises ?ebNoRises ?etNoRises ?eaNoFlow ?eqNoFlow ?ekNoFlow ?ebNoFlow ?etNoFlow ?eaNoDue ?eqNoDue ?ekNoDue ?ebNoDue ?etNoDue ?eaNoSpot ?eqNoSpot ?ekNoSpot ?ebNoSpot ?etNoSpot ?eaEmberError ?eqEmberError ?ekEmberError ?ebEmberError ?etEmberError ?eaNoNumber ?eqNoNumber ?ekNoNumber ?ebNoNumber ?etNoNumber ?vx0 ?vk0 ?vx1 ?vk1 ?vx2 ?vk2 ?vx3 ?vk3 ?vx4 ?vk4 ?vx5 ?vk5 ?vx6 ?vk6 ?vx7 ?vk7 ?vx8 ?vk8 ?vx9 ?vk9 ?vx10 ?vk10 ?vx11 ?vk11 ?vx12 ?vk12 ?vx13 ?vk13 ?vx14 ?vk14 ?vx15 ?vk15 ?vx16 ?vk16 ?vx17 ?vk17 ?vx18 ?vk18 ?vx19 ?vk19 ?vx20 ?vk20 ?vx21 ?vk21 ?vx22 ?vk22 ?vx23 ?vk23 ?vx24 ?vk24 ?vx25 ?vk25 ?vx26 ?vk26 ?vx27 ?vk27 ?vx28 ?vk28 ?vx29 ?vk29 ?vx30 ?vk30 ?vx31 ?vk31 ?vx32 ?vk32 ?vx33 ?vk33 ?vx34 ?vk34 ?vx35 ?vk35 ?vx36 ?vk36 ?vx37 ?vk37 ?vx38 ?vk38 ?vx39 ?vk39 ?vx40 ?vk40 ?vx41 ?vk41 ?vvNoKit ?vcNoKit ?vvNoRises ?vcNoRises ?vvNoFlow ?vcNoFlow ?vvNoDue ?vcNoDue ?vvNoSpot ?vcNoSpot ?vvNoNumber ?vcNoNumber L28.plain
    (case a_law_hand => k_is); (case l_law_hand => k_is); (case c_law_hand => k_is); (case k_law_hand => k_is); (case a_law_draw => k_is); (case l_law_draw => k_is)
    (case c_law_draw => k_is); (case k_law_draw => k_is); (case a_law_kit => k_is); (case l_law_kit => k_is); (case c_law_kit => k_is); (case k_law_kit => k_is)
    (case a_law_any => k_is); (case l_law_any => k_is); (case c_law_any => k_is); (case k_law_any => k_is); (case a_law_rises => k_is); (case l_law_rises => k_is)
    (case c_law_rises => k_is); (case k_law_rises => k_is); (case ais_integer => k_is); (case lis_integer => k_is); (case cis_integer => k_is); (case kis_integer => k_is)
    (case ais_within => k_is); (case lis_within => k_is); (case cis_within => k_is); (case kis_within => k_is); (case ais_sized => k_is); (case lis_sized => k_is)
    (case cis_sized => k_is); (case kis_sized => k_is); (case aare_pressures => k_is); (case lare_pressures => k_is); (case care_pressures => k_is); (case kare_pressures => k_is)
    (case ais_kit => k_is); (case lis_kit => k_is); (case cis_kit => k_is); (case kis_kit => k_is); (case a_law_stretch => k_is); (case l_law_stretch => k_is)
    (case c_law_stretch => k_is); (case k_law_stretch => k_is); (case acheck_kit => k_is); (case lcheck_kit => k_is); (case ccheck_kit => k_is); (case kcheck_kit => k_is)
    (case acheck_rises => k_is); (case lcheck_rises => k_is); (case ccheck_rises => k_is); (case kcheck_rises => k_is); (case acheck_flow => k_is); (case lcheck_flow => k_is)
    (case ccheck_flow => k_is); (case kcheck_flow => k_is); (case acheck_line_of => k_is); (case lcheck_line_of => k_is); (case ccheck_line_of => k_is); (case kcheck_line_of => k_is)
    (case acheck_pressure => k_is); (case lcheck_pressure => k_is); (case ccheck_pressure => k_is); (case kcheck_pressure => k_is); (case asums_on => k_is); (case lsums_on => k_is)
    (case csums_on => k_is); (case ksums_on => k_is); (case araw_loss => k_is); (case lraw_loss => k_is); (case craw_loss => k_is); (case kraw_loss => k_is)
    (case araw_stretch => k_is); (case lraw_stretch => k_is); (case craw_stretch => k_is); (case kraw_stretch => k_is); (case astretch_told => k_is); (case lstretch_told => k_is)
    (case cstretch_told => k_is); (case kstretch_told => k_is); (case a_law_bad_kit => k_is); (case l_law_bad_kit => k_is); (case c_law_bad_kit => k_is); (case k_law_bad_kit => k_is)
    (case a_law_said => k_is); (case l_law_said => k_is); (case c_law_said => k_is); (case k_law_said => k_is); (case acan_burst => k_is); (case lcan_burst => k_is)
    (case ccan_burst => k_is); (case kcan_burst => k_is); (case aloss_of => k_is); (case lloss_of => k_is); (case closs_of => k_is); (case kloss_of => k_is)
    (case a_law_refused_right => k_is); (case l_law_refused_right => k_is); (case c_law_refused_right => k_is); (case k_law_refused_right => k_is); (case lc_law_refused_right => k_is); (case hv_law_refused_right => rfl)
    (case nP_law_refused_right => kernel_rfl); (case hr_law_refused_right => rfl); (case a_law_asked => k_is); (case l_law_asked => k_is); (case c_law_asked => k_is); (case k_law_asked => k_is)
    (case alaw => k_is); (case llaw => k_is); (case claw => k_is); (case klaw => k_is); (case hu_law_refused_right => decide +kernel); (case hL => kernel_rfl)
    (case zint => k_is); (case zabs => k_is); (case zlen => k_is); (case zrange => k_is); (case zmax => k_is); (case ztuple => k_is)
    (case zisinstance => k_is); (case zbool => k_is); (case zall => k_is); (case zzip => k_is); (case zmin => k_is); (case zlist => k_is)
    (case zValueError => k_is); (case zenumerate => k_is); (case iLEAST_FLOWS => k_is); (case iMOST_FLOWS => k_is); (case iMOST_PRESSURE => k_is); (case iMOST_RISES => k_is)
    (case iMOST_RISE => k_is); (case iMOST_BESIDE => k_is); (case eaNoKit => k_is); (case eqNoKit => k_exc); (case ekNoKit => k_is); (case ebNoKit => k_is)
    (case etNoKit => k_is); (case eaNoRises => k_is); (case eqNoRises => k_exc); (case ekNoRises => k_is); (case ebNoRises => k_is); (case etNoRises => k_is)
    (case eaNoFlow => k_is); (case eqNoFlow => k_exc); (case ekNoFlow => k_is); (case ebNoFlow => k_is); (case etNoFlow => k_is); (case eaNoDue => k_is)
    (case eqNoDue => k_exc); (case ekNoDue => k_is); (case ebNoDue => k_is); (case etNoDue => k_is); (case eaNoSpot => k_is); (case eqNoSpot => k_exc)
    (case ekNoSpot => k_is); (case ebNoSpot => k_is); (case etNoSpot => k_is); (case eaEmberError => k_is); (case eqEmberError => k_exc); (case ekEmberError => k_is)
    (case ebEmberError => k_is); (case etEmberError => k_is); (case eaNoNumber => k_is); (case eqNoNumber => k_exc); (case ekNoNumber => k_is); (case ebNoNumber => k_is)
    (case etNoNumber => k_is); (case vx0 => kernel_rfl); (case vk0 => kernel_rfl); (case vx1 => kernel_rfl); (case vk1 => kernel_rfl); (case vx2 => kernel_rfl)
    (case vk2 => kernel_rfl); (case vx3 => kernel_rfl); (case vk3 => kernel_rfl); (case vx4 => kernel_rfl); (case vk4 => kernel_rfl); (case vx5 => kernel_rfl)
    (case vk5 => kernel_rfl); (case vx6 => kernel_rfl); (case vk6 => kernel_rfl); (case vx7 => kernel_rfl); (case vk7 => kernel_rfl); (case vx8 => kernel_rfl)
    (case vk8 => kernel_rfl); (case vx9 => kernel_rfl); (case vk9 => kernel_rfl); (case vx10 => kernel_rfl); (case vk10 => kernel_rfl); (case vx11 => kernel_rfl)
    (case vk11 => kernel_rfl); (case vx12 => kernel_rfl); (case vk12 => kernel_rfl); (case vx13 => kernel_rfl); (case vk13 => kernel_rfl); (case vx14 => kernel_rfl)
    (case vk14 => kernel_rfl); (case vx15 => kernel_rfl); (case vk15 => kernel_rfl); (case vx16 => kernel_rfl); (case vk16 => kernel_rfl); (case vx17 => kernel_rfl)
    (case vk17 => kernel_rfl); (case vx18 => kernel_rfl); (case vk18 => kernel_rfl); (case vx19 => kernel_rfl); (case vk19 => kernel_rfl); (case vx20 => kernel_rfl)
    (case vk20 => kernel_rfl); (case vx21 => kernel_rfl); (case vk21 => kernel_rfl); (case vx22 => kernel_rfl); (case vk22 => kernel_rfl); (case vx23 => kernel_rfl)
    (case vk23 => kernel_rfl); (case vx24 => kernel_rfl); (case vk24 => kernel_rfl); (case vx25 => kernel_rfl); (case vk25 => kernel_rfl); (case vx26 => kernel_rfl)
    (case vk26 => kernel_rfl); (case vx27 => kernel_rfl); (case vk27 => kernel_rfl); (case vx28 => kernel_rfl); (case vk28 => kernel_rfl); (case vx29 => kernel_rfl)
    (case vk29 => kernel_rfl); (case vx30 => kernel_rfl); (case vk30 => kernel_rfl); (case vx31 => kernel_rfl); (case vk31 => kernel_rfl); (case vx32 => kernel_rfl)
    (case vk32 => kernel_rfl); (case vx33 => kernel_rfl); (case vk33 => kernel_rfl); (case vx34 => kernel_rfl); (case vk34 => kernel_rfl); (case vx35 => kernel_rfl)
    (case vk35 => kernel_rfl); (case vx36 => kernel_rfl); (case vk36 => kernel_rfl); (case vx37 => kernel_rfl); (case vk37 => kernel_rfl); (case vx38 => kernel_rfl)
    (case vk38 => kernel_rfl); (case vx39 => kernel_rfl); (case vk39 => kernel_rfl); (case vx40 => kernel_rfl); (case vk40 => kernel_rfl); (case vx41 => kernel_rfl)
    (case vk41 => kernel_rfl); (case vvNoKit => kernel_rfl); (case vcNoKit => (refine ⟨?_, ?_, ?_, ?_, ?_, ?_, ?_, ?_⟩ <;> kernel_rfl)); (case vvNoRises => kernel_rfl); (case vcNoRises => (refine ⟨?_, ?_, ?_, ?_, ?_, ?_, ?_, ?_⟩ <;> kernel_rfl)); (case vvNoFlow => kernel_rfl)
    (case vcNoFlow => (refine ⟨?_, ?_, ?_, ?_, ?_, ?_, ?_, ?_⟩ <;> kernel_rfl)); (case vvNoDue => kernel_rfl); (case vcNoDue => (refine ⟨?_, ?_, ?_, ?_, ?_, ?_, ?_, ?_⟩ <;> kernel_rfl)); (case vvNoSpot => kernel_rfl); (case vcNoSpot => (refine ⟨?_, ?_, ?_, ?_, ?_, ?_, ?_, ?_⟩ <;> kernel_rfl)); (case vvNoNumber => kernel_rfl)
    (case vcNoNumber => (refine ⟨?_, ?_, ?_, ?_, ?_, ?_, ?_, ?_⟩ <;> kernel_rfl))
