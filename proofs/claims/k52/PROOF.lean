import PyProof.Rows.All
import Wide.All
import OpenK.AllK
import Wide.FinOn
import HandS.ForMost
import HandS.ForExc
import HandS.Lambda
import HandS.IsInst
import HandS.Deep
import HandS.TupAny
import HandS.Zip
import HandS.EndTab
import HandS.Small
import HandS.ExcIs
import KE.DataMinMax
import KE.DataFind
import KE.SortData
import KE.SortKeyHeap
import HandS.Codes
import HandS.Conv
import HandS.Strs
import HandS.StrMore
import HandS.StrSplit
import HandS.TryMany
import HandS.Rev
import HandS.RevRange
import HandS.ExcInit
import KE.GoesEnum
import PySem.Challenge.RW_emberhall_k52_whole_codes_and_their_beat
set_option Elab.async false
set_option linter.all false
set_option maxRecDepth 100000
namespace Em
open PySem PySem.Spec PyProof.Rows L2

abbrev D := PyData
inductive Cell where
  | lst (ds : List D)
  | frz (ds : List D)
  | dk (kvs : List (Key × D))
abbrev Mem := List Cell
inductive R where
  | d (x : D)
  | c (n : Nat)
  | fl (ds : List D)
  | fk (kvs : List (Key × D))
  | o (a : Addr)
structure Ex where
  cls : Str
  arg : Option (Str × D)
inductive Rs (α : Type) where
  | ok (a : α) (μ : Mem)
  | ex (x : Ex) (μ : Mem)
  | no
abbrev Vr := List (Option R)
abbrev EC := Vr → Mem → Rs R
abbrev TC := Vr → Mem → Rs Bool
abbrev AC := Vr → Mem → Rs (List R)
def Rs.bind {α β : Type} (r : Rs α) (f : α → Mem → Rs β) : Rs β := match r with
  | .ok a μ => f a μ
  | .ex x μ => .ex x μ
  | .no => .no
theorem bind_ok {α β : Type} {a : α} {μ : Mem} {f : α → Mem → Rs β} : Rs.bind (.ok a μ) f = f a μ := rfl
theorem bind_ex {α β : Type} {x : Ex} {μ : Mem} {f : α → Mem → Rs β} : Rs.bind (.ex x μ) f = .ex x μ := rfl
theorem bind_no {α β : Type} {f : α → Mem → Rs β} : Rs.bind (.no : Rs α) f = .no := rfl

/-! ### data -/
mutual
/-- what a value is, as data that never changes -/
inductive Dq (K : PySem.W.Frag) (F : Hp) : V → PyData → Prop
  | non : Dq K F .non .none
  | bl (b : Bool) : Dq K F (.bl b) (.bool b)
  | int (i : Int) : Dq K F (.int i) (.int i)
  | str (x : Str) : Dq K F (.str x) (.str x)
  | lst {a : Addr} {xs : List V} {ds : List PyData} : Rd F a (.lst xs) → DqAll K F xs ds → Dq K F (.ref a) (.list ds)
  | tup {a : Addr} {xs : List V} {ds : List PyData} : SqT K F a xs → DqAll K F xs ds → Dq K F (.ref a) (.tuple ds)
inductive DqAll (K : PySem.W.Frag) (F : Hp) : List V → List PyData → Prop
  | nil : DqAll K F [] []
  | cons {v : V} {vs : List V} {d : PyData} {ds : List PyData} : Dq K F v d → DqAll K F vs ds → DqAll K F (v :: vs) (d :: ds)
end
mutual
theorem Dq.dp {K : PySem.W.Frag} {F : Hp} : ∀ {v : V} {d : PyData}, Dq K F v d → Dp K F v d
  | _, _, .non => .non
  | _, _, .bl b => .bl b
  | _, _, .int i => .int i
  | _, _, .str x => .str x
  | _, _, .lst h r => .lst (.inl h) (DqAll.dp r)
  | _, _, .tup h r => .tup h (DqAll.dp r)
theorem DqAll.dp {K : PySem.W.Frag} {F : Hp} : ∀ {vs : List V} {ds : List PyData}, DqAll K F vs ds → DpAll K F vs ds
  | _, _, .nil => .nil
  | _, _, .cons h t => .cons (Dq.dp h) (DqAll.dp t)
end
theorem Rd_mono {F F' : Hp} {a : Addr} {u : HO} (e : Same F F') (h : Rd F a u) : Rd F' a u := by
  rcases h with h | ⟨o, h⟩
  · exact .inl (e _ _ h)
  · exact .inr ⟨o, e _ _ h⟩
/-! ### relations -/
def CellOk (K : PySem.W.Frag) (F H : Hp) (a : Addr) : Cell → Prop
  | .lst ds => F a = none ∧ ∃ vs, H a = some (.lst vs) ∧ DqAll K F vs ds
  | .frz ds => ∃ vs, F a = some (.lst vs) ∧ DqAll K F vs ds
  | .dk kvs => F a = none ∧ ∃ kv, H a = some (.dK kv) ∧ kv.map (·.1) = kvs.map (·.1) ∧ DqAll K F (kv.map (·.2)) (kvs.map (·.2))
def RelR (K : PySem.W.Frag) (F : Hp) (as : List Addr) (H : Hp) : R → V → Prop
  | .d x, v => Dq K F v x
  | .c n, v => ∃ a, as[n]? = some a ∧ v = .ref a
  | .fl ds, v => ∃ a vs, v = .ref a ∧ a ∉ as ∧ F a = none ∧ H a = some (.lst vs) ∧ DqAll K F vs ds
  | .fk kvs, v => ∃ a kv, v = .ref a ∧ a ∉ as ∧ F a = none ∧ H a = some (.dK kv) ∧ kv.map (·.1) = kvs.map (·.1) ∧ DqAll K F (kv.map (·.2)) (kvs.map (·.2))
  | .o b, v => v = .ref b
def RelW (K : PySem.W.Frag) (F : Hp) (as : List Addr) : R → V → Prop
  | .d x, v => Dq K F v x
  | .c n, v => ∃ a, as[n]? = some a ∧ v = .ref a
  | .o b, v => v = .ref b
  | _, _ => False
/-- the tables of code objects; what was known at some time -/
structure Tb where
  tabs : List (Addr × Str)
  F0 : Hp
  as0 : List Addr
structure Ext (F : Hp) (as : List Addr) (F' : Hp) (as' : List Addr) : Prop where
  same : Same F F'
  pre : ∃ t, as' = as ++ t
structure Mm (K : PySem.W.Frag) (T : Tb) (μ : Mem) (H F : Hp) (as : List Addr) : Prop where
  same : Same F H
  ntb : ∀ a ps, F a ≠ some (.tbl ps)
  nd : as.Nodup
  len : μ.length = as.length
  cell : ∀ (n : Nat) (c : Cell) (a : Addr), μ[n]? = some c → as[n]? = some a → CellOk K F H a c
  tabs : LamX.Tabs T.tabs H
  base : Ext T.F0 T.as0 F as
def EnvR (K : PySem.W.Frag) (ρ : Vr) (σ : L2.St) (F : Hp) (as : List Addr) : Prop :=
  ρ.length = σ.length ∧ ∀ (i : Nat) (r : R), ρ[i]? = some (some r) → ∃ v, σ[i]? = some (some v) ∧ RelW K F as r v

mutual
theorem Dq_mono {K : PySem.W.Frag} {F F' : Hp} (e : Same F F') : ∀ {v : V} {d : D}, Dq K F v d → Dq K F' v d
  | _, _, .non => .non
  | _, _, .bl b => .bl b
  | _, _, .int i => .int i
  | _, _, .str x => .str x
  | _, _, .lst h r => .lst (Rd_mono e h) (DqAll_mono e r)
  | _, _, .tup h r => by
    refine .tup ?_ (DqAll_mono e r)
    rcases h with (h | ⟨o, h⟩) | h
    · exact .inl (.inl (e _ _ h))
    · exact .inl (.inr ⟨o, e _ _ h⟩)
    · exact .inr h
theorem DqAll_mono {K : PySem.W.Frag} {F F' : Hp} (e : Same F F') : ∀ {vs : List V} {ds : List D}, DqAll K F vs ds → DqAll K F' vs ds
  | _, _, .nil => .nil
  | _, _, .cons h t => .cons (Dq_mono e h) (DqAll_mono e t)
end
end Em
set_option maxRecDepth 100000
namespace Em
open PySem PySem.Spec PyProof.Rows L2

theorem Ext.refl (F : Hp) (as : List Addr) : Ext F as F as := ⟨Same.refl F, [], (List.append_nil as).symm⟩
theorem Ext.trans {F F1 F2 : Hp} {as as1 as2 : List Addr} (a : Ext F as F1 as1) (b : Ext F1 as1 F2 as2) : Ext F as F2 as2 := by
  obtain ⟨s1, t1, e1⟩ := a
  obtain ⟨s2, t2, e2⟩ := b
  exact ⟨s1.trans s2, t1 ++ t2, by rw [e2, e1, List.append_assoc]⟩
theorem Ext.get {F F' : Hp} {as as' : List Addr} (e : Ext F as F' as') {n : Nat} {a : Addr} (h : as[n]? = some a) : as'[n]? = some a := by
  obtain ⟨_, t, rfl⟩ := e
  rw [List.getElem?_append_left (List.getElem?_eq_some_iff.mp h).1]
  exact h
theorem RelW.mono {K : PySem.W.Frag} {F F' : Hp} {as as' : List Addr} (e : Ext F as F' as') {r : R} {v : V} (h : RelW K F as r v) : RelW K F' as' r v := by
  cases r with
  | d x => exact Dq_mono e.same h
  | c n => obtain ⟨a, h1, h2⟩ := h; exact ⟨a, e.get h1, h2⟩
  | fl ds => exact h
  | fk kvs => exact h
  | o b => exact h
theorem RelW.toR {K : PySem.W.Frag} {F H : Hp} {as : List Addr} {r : R} {v : V} (h : RelW K F as r v) : RelR K F as H r v := by
  cases r with
  | d x => exact h
  | c n => exact h
  | fl ds => exact h.elim
  | fk kvs => exact h.elim
  | o b => exact h
theorem EnvR.mono {K : PySem.W.Frag} {ρ : Vr} {σ : L2.St} {F F' : Hp} {as as' : List Addr} (e : Ext F as F' as') (h : EnvR K ρ σ F as) : EnvR K ρ σ F' as' :=
  ⟨h.1, fun i r q => let ⟨v, h1, h2⟩ := h.2 i r q; ⟨v, h1, h2.mono e⟩⟩

/-! ### the memory -/
theorem nodup_at {as : List Addr} (h : as.Nodup) {i j : Nat} {a : Addr} (h1 : as[i]? = some a) (h2 : as[j]? = some a) : i = j := by
  obtain ⟨l1, q1⟩ := List.getElem?_eq_some_iff.mp h1
  obtain ⟨l2, q2⟩ := List.getElem?_eq_some_iff.mp h2
  have P := List.pairwise_iff_getElem.mp h
  rcases Nat.lt_trichotomy i j with z | z | z
  · exact absurd (q1.trans q2.symm) (P i j l1 l2 z)
  · exact z
  · exact absurd (q2.trans q1.symm) (P j i l2 l1 z)
theorem same_new {H : Hp} {p : Addr} {o : HO} (h : H p = none) : Same H (upd H p o) := fun b x e => by
  rw [upd_ne (ne_of_none e h)]
  exact e
theorem CellOk.grow {K : PySem.W.Frag} {F F' H H' : Hp} {a : Addr} {c : Cell} (h : CellOk K F H a c) (sF : Same F F') (sH : ∀ o, H a = some o → H' a = some o) (hn : F a = none → F' a = none) : CellOk K F' H' a c := by
  cases c with
  | lst ds => obtain ⟨h1, vs, h2, h3⟩ := h; exact ⟨hn h1, vs, sH _ h2, DqAll_mono sF h3⟩
  | frz ds => obtain ⟨vs, h2, h3⟩ := h; exact ⟨vs, sF _ _ h2, DqAll_mono sF h3⟩
  | dk kvs => obtain ⟨h1, kv, h2, h3, h4⟩ := h; exact ⟨hn h1, kv, sH _ h2, h3, DqAll_mono sF h4⟩
section
variable {K : PySem.W.Frag} {T : Tb} {μ : Mem} {H F : Hp} {as : List Addr}
/-- a new object that is not (yet) known -/
theorem Mm.alloc (m : Mm K T μ H F as) {p : Addr} {o : HO} (hp : H p = none) : Mm K T μ (upd H p o) F as :=
  ⟨m.same.trans (same_new hp), m.ntb, m.nd, m.len, fun n c a h1 h2 => (m.cell n c a h1 h2).grow (Same.refl F) (fun o e => same_new hp _ _ e) id, m.tabs.ext (same_new hp), m.base⟩
theorem Mm.freeF (m : Mm K T μ H F as) {p : Addr} (hp : H p = none) : F p = none := m.same.free hp
theorem Mm.notin (m : Mm K T μ H F as) {p : Addr} (hp : H p = none) : p ∉ as := fun hm => by
  obtain ⟨n, hn, e⟩ := List.getElem_of_mem hm
  have hm' : n < μ.length := by rw [m.len]; exact hn
  have q := m.cell n μ[n] p (List.getElem?_eq_getElem hm') (by rw [List.getElem?_eq_getElem hn, e])
  cases hc : μ[n] with
  | lst ds => rw [hc] at q; obtain ⟨_, vs, h2, _⟩ := q; rw [hp] at h2; cases h2
  | frz ds =>
    rw [hc] at q
    obtain ⟨vs, h2, _⟩ := q
    rw [m.freeF hp] at h2; cases h2
  | dk kvs => rw [hc] at q; obtain ⟨_, vs, h2, _⟩ := q; rw [hp] at h2; cases h2

theorem Ext.new {p : Addr} {o : HO} (hF : F p = none) : Ext F as (upd F p o) as := ⟨same_new hF, [], (List.append_nil as).symm⟩
theorem Mm.freeze (m : Mm K T μ H F as) {p : Addr} {o : HO} (hF : F p = none) (hH : H p = some o) (hp : p ∉ as) (ho : ∀ ps, o ≠ .tbl ps) : Mm K T μ H (upd F p o) as := by
  refine ⟨fun b x e => ?_, fun a ps e => ?_, m.nd, m.len, fun n c a h1 h2 => (m.cell n c a h1 h2).grow (same_new hF) (fun o e => e) (fun hn => ?_), m.tabs, m.base.trans (Ext.new hF)⟩
  · by_cases hb : b = p
    · subst hb; rw [upd_same] at e; cases e; exact hH
    · rw [upd_ne hb] at e; exact m.same _ _ e
  · by_cases hb : a = p
    · subst hb; rw [upd_same] at e; cases e; exact ho _ rfl
    · rw [upd_ne hb] at e; exact m.ntb _ _ e
  · rw [upd_ne]
    · exact hn
    · rintro rfl
      exact hp (List.mem_of_getElem? h2)
theorem Mm.adopt (m : Mm K T μ H F as) {p : Addr} {c : Cell} (hp : p ∉ as) (hc : CellOk K F H p c) : Mm K T (μ ++ [c]) H F (as ++ [p]) := by
  refine ⟨m.same, m.ntb, ?_, ?_, fun n c' a h1 h2 => ?_, m.tabs, m.base.trans ⟨Same.refl _, [p], rfl⟩⟩
  · rw [List.nodup_append]
    refine ⟨m.nd, by simp, fun a ha b hb => ?_⟩
    rw [List.mem_singleton] at hb
    subst hb
    exact fun e => hp (e ▸ ha)
  · rw [List.length_append, List.length_append, m.len]; rfl
  · by_cases hn : n < μ.length
    · have hn' : n < as.length := by rw [← m.len]; exact hn
      rw [List.getElem?_append_left hn] at h1
      rw [List.getElem?_append_left hn'] at h2
      exact m.cell n c' a h1 h2
    · have hn' : as.length ≤ n := by rw [← m.len]; omega
      rw [List.getElem?_append_right (by omega)] at h1
      rw [List.getElem?_append_right hn'] at h2
      rw [m.len] at h1
      obtain ⟨e1, h1⟩ := List.getElem?_eq_some_iff.mp h1
      obtain ⟨e2, h2⟩ := List.getElem?_eq_some_iff.mp h2
      simp at h1 h2
      subst h1; subst h2
      exact hc
theorem tabs_upd {a : Addr} {o o' : HO} (t : LamX.Tabs T.tabs H) (h : H a = some o) (h1 : ∀ ps, o ≠ .tbl ps) (h2 : ∀ φ, o ≠ .ext φ) : LamX.Tabs T.tabs (upd H a o') := fun p hp => by
  obtain ⟨ps, e1, e2, e3⟩ := t p hp
  refine ⟨ps, ?_, e2, fun pos cv hc => ?_⟩
  · rw [upd_ne]
    · exact e1
    · intro z; rw [z, h] at e1; cases e1; exact h1 _ rfl
  · obtain ⟨c, r1, r2⟩ := e3 pos cv hc
    refine ⟨c, r1, ?_⟩
    rw [upd_ne]
    · exact r2
    · intro z; rw [z, h] at r2; cases r2; exact h2 _ rfl
theorem Mm.write (m : Mm K T μ H F as) {n : Nat} {a : Addr} {o o' : HO} {c' : Cell} (hn : as[n]? = some a) (hF : F a = none) (h : H a = some o) (h1 : ∀ ps, o ≠ .tbl ps) (h2 : ∀ φ, o ≠ .ext φ) (hc : CellOk K F (upd H a o') a c') : Mm K T (μ.set n c') (upd H a o') F as := by
  refine ⟨fun b x e => ?_, m.ntb, m.nd, by rw [List.length_set]; exact m.len, fun k c b e1 e2 => ?_, tabs_upd m.tabs h h1 h2, m.base⟩
  · rw [upd_ne]
    · exact m.same _ _ e
    · rintro rfl; rw [hF] at e; cases e
  · by_cases hk : k = n
    · subst hk
      have hl : k < μ.length := by rw [m.len]; exact (List.getElem?_eq_some_iff.mp e2).1
      rw [List.getElem?_set_self hl] at e1
      rw [hn] at e2
      cases e1; cases e2
      exact hc
    · rw [List.getElem?_set_ne (Ne.symm hk)] at e1
      have hb : b ≠ a := by
        rintro rfl
        exact hk (nodup_at m.nd e2 hn)
      exact (m.cell k c b e1 e2).grow (Same.refl F) (fun o e => by rw [upd_ne hb]; exact e) id
/-- a live list cell is frozen -/
theorem Mm.frz (m : Mm K T μ H F as) {n : Nat} {a : Addr} {ds : List D} (hn : as[n]? = some a) (hc : μ[n]? = some (.lst ds)) : ∃ vs, Mm K T (μ.set n (.frz ds)) H (upd F a (.lst vs)) as ∧ Ext F as (upd F a (.lst vs)) as ∧ (upd F a (.lst vs)) a = some (.lst vs) ∧ DqAll K (upd F a (.lst vs)) vs ds := by
  obtain ⟨hF, vs, hH, hd⟩ := m.cell n _ a hc hn
  have sF : Same F (upd F a (.lst vs)) := same_new hF
  refine ⟨vs, ⟨fun b x e => ?_, fun b ps e => ?_, m.nd, by rw [List.length_set]; exact m.len, fun k c b e1 e2 => ?_, m.tabs, m.base.trans (Ext.new hF)⟩, Ext.new hF, upd_same, DqAll_mono sF hd⟩
  · by_cases hb : b = a
    · subst hb; rw [upd_same] at e; cases e; exact hH
    · rw [upd_ne hb] at e; exact m.same _ _ e
  · by_cases hb : b = a
    · subst hb; rw [upd_same] at e; cases e
    · rw [upd_ne hb] at e; exact m.ntb _ _ e
  · by_cases hk : k = n
    · subst hk
      have hl : k < μ.length := by rw [m.len]; exact (List.getElem?_eq_some_iff.mp e2).1
      rw [List.getElem?_set_self hl] at e1
      rw [hn] at e2
      cases e1; cases e2
      exact ⟨vs, upd_same, DqAll_mono sF hd⟩
    · rw [List.getElem?_set_ne (Ne.symm hk)] at e1
      have hb : b ≠ a := by
        rintro rfl
        exact hk (nodup_at m.nd e2 hn)
      exact (m.cell k c b e1 e2).grow sF (fun o e => e) (fun hn' => by rw [upd_ne hb]; exact hn')
end

/-! ### holding and seeing a value -/
def hold : R → Mem → Rs R
  | .d x, μ => .ok (.d x) μ
  | .c n, μ => .ok (.c n) μ
  | .fl ds, μ => .ok (.d (.list ds)) μ
  | .fk kvs, μ => .ok (.c μ.length) (μ ++ [.dk kvs])
  | .o b, μ => .ok (.o b) μ
/-- as data that is never changed again -/
def toD : R → Mem → Rs R
  | .d x, μ => .ok (.d x) μ
  | .c n, μ => match μ[n]? with
    | some (.lst ds) => .ok (.d (.list ds)) (μ.set n (.frz ds))
    | some (.frz ds) => .ok (.d (.list ds)) μ
    | _ => .no
  | .fl ds, μ => .ok (.d (.list ds)) μ
  | .fk _, _ => .no
  | .o _, _ => .no
/-- what it holds now -/
def see : R → Mem → Option D
  | .d x, _ => some x
  | .c n, μ => match μ[n]? with
    | some (.lst ds) => some (.list ds)
    | some (.frz ds) => some (.list ds)
    | _ => none
  | _, _ => none
section
variable {K : PySem.W.Frag} {T : Tb} {μ μ' : Mem} {H F : Hp} {as : List Addr} {r r' : R} {v : V}
theorem hold_ok (m : Mm K T μ H F as) (h : RelR K F as H r v) (e : hold r μ = .ok r' μ') : ∃ F' as', Ext F as F' as' ∧ Mm K T μ' H F' as' ∧ RelW K F' as' r' v := by
  cases r with
  | d x => cases e; exact ⟨F, as, Ext.refl _ _, m, h⟩
  | c n => cases e; exact ⟨F, as, Ext.refl _ _, m, h⟩
  | fl ds =>
    cases e
    obtain ⟨a, vs, rfl, h1, h2, h3, h4⟩ := h
    exact ⟨upd F a (.lst vs), as, Ext.new h2, m.freeze h2 h3 h1 (fun ps z => by cases z), .lst (.inl upd_same) (DqAll_mono (same_new h2) h4)⟩
  | fk kvs =>
    cases e
    obtain ⟨a, kv, rfl, h1, h2, h3, h4, h5⟩ := h
    refine ⟨F, as ++ [a], ⟨Same.refl _, [a], rfl⟩, m.adopt h1 ⟨h2, kv, h3, h4, h5⟩, a, ?_, rfl⟩
    rw [m.len, List.getElem?_append_right (Nat.le_refl _)]
    simp
  | o b => cases e; exact ⟨F, as, Ext.refl _ _, m, h⟩
theorem toD_ok (m : Mm K T μ H F as) (h : RelR K F as H r v) (e : toD r μ = .ok r' μ') : ∃ F' d, r' = .d d ∧ Ext F as F' as ∧ Mm K T μ' H F' as ∧ Dq K F' v d := by
  cases r with
  | d x => cases e; exact ⟨F, x, rfl, Ext.refl _ _, m, h⟩
  | c n =>
    obtain ⟨a, ha, rfl⟩ := h
    unfold toD at e
    cases hc : μ[n]? with
    | none => simp only [hc] at e; cases e
    | some c =>
      cases c with
      | lst ds =>
        simp only [hc] at e; cases e
        obtain ⟨vs, m', x', q1, q2⟩ := m.frz ha hc
        exact ⟨_, _, rfl, x', m', .lst (.inl q1) q2⟩
      | frz ds =>
        simp only [hc] at e; cases e
        obtain ⟨vs, q1, q2⟩ := m.cell n _ a hc ha
        exact ⟨F, _, rfl, Ext.refl _ _, m, .lst (.inl q1) q2⟩
      | dk kvs => simp only [hc] at e; cases e
  | fl ds =>
    cases e
    obtain ⟨a, vs, rfl, h1, h2, h3, h4⟩ := h
    exact ⟨upd F a (.lst vs), _, rfl, Ext.new h2, m.freeze h2 h3 h1 (fun ps z => by cases z), .lst (.inl upd_same) (DqAll_mono (same_new h2) h4)⟩
  | fk kvs => cases e
  | o b => cases e
theorem see_list {ds : List D} (m : Mm K T μ H F as) (h : RelW K F as r v) (e : see r μ = some (.list ds)) : ∃ a vs, v = .ref a ∧ Rd H a (.lst vs) ∧ DqAll K F vs ds := by
  cases r with
  | d x =>
    cases e
    cases h with
    | lst h1 h2 => exact ⟨_, _, rfl, Rd_mono m.same h1, h2⟩
  | c n =>
    obtain ⟨a, ha, rfl⟩ := h
    unfold see at e
    cases hc : μ[n]? with
    | none => simp only [hc] at e; cases e
    | some c =>
      cases c with
      | lst ds' =>
        simp only [hc] at e; cases e
        obtain ⟨_, vs, q1, q2⟩ := m.cell n _ a hc ha
        exact ⟨a, vs, rfl, .inl q1, q2⟩
      | frz ds' =>
        simp only [hc] at e; cases e
        obtain ⟨vs, q1, q2⟩ := m.cell n _ a hc ha
        exact ⟨a, vs, rfl, .inl (m.same _ _ q1), q2⟩
      | dk kvs => simp only [hc] at e; cases e
  | fl ds => exact h.elim
  | fk kvs => exact h.elim
  | o b => cases e
theorem same_tup {K : PySem.W.Frag} {H H' : Hp} {a : Addr} {xs : List V} (e : Same H H') (h : SqT K H a xs) : SqT K H' a xs := by
  rcases h with (h | ⟨o, h⟩) | h
  · exact .inl (.inl (e _ _ h))
  · exact .inl (.inr ⟨o, e _ _ h⟩)
  · exact .inr h
theorem see_d {x : D} (h : RelW K F as r v) (e : see r μ = some x) (hx : ∀ ds, x ≠ .list ds) : Dq K F v x := by
  cases r with
  | d x => cases e; exact h
  | c n =>
    unfold see at e
    cases hc : μ[n]? with
    | none => simp only [hc] at e; cases e
    | some c =>
      cases c with
      | lst ds' => simp only [hc] at e; cases e; exact absurd rfl (hx _)
      | frz ds' => simp only [hc] at e; cases e; exact absurd rfl (hx _)
      | dk kvs => simp only [hc] at e; cases e
  | fl ds => exact h.elim
  | fk kvs => exact h.elim
  | o b => cases e
theorem see_tup {ds : List D} (m : Mm K T μ H F as) (h : RelW K F as r v) (e : see r μ = some (.tuple ds)) : ∃ a vs, v = .ref a ∧ SqT K H a vs ∧ SqT K F a vs ∧ DqAll K F vs ds := by
  cases see_d h e (fun ds z => by cases z) with
  | tup h1 h2 => exact ⟨_, _, rfl, same_tup m.same h1, h1, h2⟩
theorem see_Dq {x : D} (m : Mm K T μ H F as) (h : RelW K F as r v) (e : see r μ = some x) : Dq K H v x := by
  cases x with
  | list ds => obtain ⟨a, vs, rfl, h1, h2⟩ := see_list m h e; exact .lst h1 (DqAll_mono m.same h2)
  | none => exact Dq_mono m.same (see_d h e (fun ds z => by cases z))
  | bool b => exact Dq_mono m.same (see_d h e (fun ds z => by cases z))
  | int i => exact Dq_mono m.same (see_d h e (fun ds z => by cases z))
  | str s => exact Dq_mono m.same (see_d h e (fun ds z => by cases z))
  | tuple ds => exact Dq_mono m.same (see_d h e (fun ds z => by cases z))
  | dict kvs => exact Dq_mono m.same (see_d h e (fun ds z => by cases z))
theorem see_int {i : Int} (h : RelW K F as r v) (e : see r μ = some (.int i)) : v = .int i := by
  cases see_d h e (fun ds z => by cases z); rfl
theorem see_str {i : Str} (h : RelW K F as r v) (e : see r μ = some (.str i)) : v = .str i := by
  cases see_d h e (fun ds z => by cases z); rfl
theorem see_bool {i : Bool} (h : RelW K F as r v) (e : see r μ = some (.bool i)) : v = .bl i := by
  cases see_d h e (fun ds z => by cases z); rfl
theorem see_none (h : RelW K F as r v) (e : see r μ = some .none) : v = .non := by
  cases see_d h e (fun ds z => by cases z); rfl
end
theorem DqAll.get {K : PySem.W.Frag} {F : Hp} : ∀ {vs : List V} {ds : List D} {i : Nat} {d : D}, DqAll K F vs ds → ds[i]? = some d → ∃ v, vs[i]? = some v ∧ Dq K F v d
  | _, _, _, _, .nil, h => by simp at h
  | _, _, 0, _, .cons h t, e => by simp at e; subst e; exact ⟨_, rfl, h⟩
  | _, _, i + 1, d, .cons h t, e => by
    obtain ⟨v, h1, h2⟩ := DqAll.get (i := i) (d := d) t (by simpa using e)
    exact ⟨v, by simpa using h1, h2⟩
theorem DqAll.length {K : PySem.W.Frag} {F : Hp} : ∀ {vs : List V} {ds : List D}, DqAll K F vs ds → vs.length = ds.length
  | _, _, .nil => rfl
  | _, _, .cons h t => by rw [List.length_cons, List.length_cons, DqAll.length t]
theorem DqAll.append {K : PySem.W.Frag} {F : Hp} : ∀ {vs ws : List V} {ds es : List D}, DqAll K F vs ds → DqAll K F ws es → DqAll K F (vs ++ ws) (ds ++ es)
  | _, _, _, _, .nil, s => s
  | _, _, _, _, .cons h t, s => .cons h (DqAll.append t s)
theorem DqAll.take {K : PySem.W.Frag} {F : Hp} : ∀ {vs : List V} {ds : List D} (n : Nat), DqAll K F vs ds → DqAll K F (vs.take n) (ds.take n)
  | _, _, 0, _ => .nil
  | _, _, _ + 1, .nil => .nil
  | _, _, n + 1, .cons h t => .cons h (DqAll.take n t)
theorem DqAll.drop {K : PySem.W.Frag} {F : Hp} : ∀ {vs : List V} {ds : List D} (n : Nat), DqAll K F vs ds → DqAll K F (vs.drop n) (ds.drop n)
  | _, _, 0, h => h
  | _, _, _ + 1, .nil => .nil
  | _, _, n + 1, .cons h t => DqAll.drop n t
theorem DqAll.set {K : PySem.W.Frag} {F : Hp} {v : V} {d : D} (q : Dq K F v d) : ∀ {vs : List V} {ds : List D} (n : Nat), DqAll K F vs ds → DqAll K F (vs.set n v) (ds.set n d)
  | _, _, _, .nil => .nil
  | _, _, 0, .cons h t => .cons q t
  | _, _, n + 1, .cons h t => .cons h (DqAll.set q n t)
theorem DqAll.ints {K : PySem.W.Frag} {F : Hp} : ∀ (ns : List Int), DqAll K F (ns.map V.int) (ns.map PyData.int)
  | [] => .nil
  | n :: ns => .cons (.int n) (DqAll.ints ns)
theorem DqAll.of_ints {K : PySem.W.Frag} {F : Hp} : ∀ {vs : List V} {ns : List Int}, DqAll K F vs (ns.map PyData.int) → vs = ns.map V.int
  | _, [], .nil => rfl
  | _, n :: ns, .cons h t => by cases h; rw [DqAll.of_ints t]; rfl
theorem DqAll.of_bools {K : PySem.W.Frag} {F : Hp} : ∀ {vs : List V} {ns : List Bool}, DqAll K F vs (ns.map PyData.bool) → vs = ns.map V.bl
  | _, [], .nil => rfl
  | _, n :: ns, .cons h t => by cases h; rw [DqAll.of_bools t]; rfl
theorem DqAll.of_strs {K : PySem.W.Frag} {F : Hp} : ∀ {vs : List V} {ns : List Str}, DqAll K F vs (ns.map PyData.str) → vs = ns.map V.str
  | _, [], .nil => rfl
  | _, n :: ns, .cons h t => by cases h; rw [DqAll.of_strs t]; rfl
theorem DqAll.strs {K : PySem.W.Frag} {F : Hp} : ∀ (ns : List Str), DqAll K F (ns.map V.str) (ns.map PyData.str)
  | [] => .nil
  | n :: ns => .cons (.str n) (DqAll.strs ns)
end Em
set_option maxRecDepth 100000
namespace Em
open PySem PySem.Spec PyProof.Rows L2

/-! ### what a piece of the text does, as it stands -/
def VE (X : Cx) (e : Expr) (σ : L2.St) (H : Hp) (Q : VK) : Prop := ∀ (pins : List (Addr × Obj)) (s : Shared), Inv X pins σ H s → wpAny (model X.prog X.w) X.A (eval e X.env) (EP X pins σ Q) X.xe s
def VT (X : Cx) (e : Expr) (σ : L2.St) (H : Hp) (Q : Bool → Hp → Prop) : Prop := ∀ (pins : List (Addr × Obj)) (s : Shared), Inv X pins σ H s → wpAny (model X.prog X.w) X.A (isTrue e X.env (eval e X.env)) (TP X pins σ Q) X.xe s
def VU (X : Cx) (e : Expr) (σ : L2.St) (H : Hp) (Q : Bool → Hp → Prop) : Prop := ∀ (whole : Sem Value) (pins : List (Addr × Obj)) (s : Shared), Inv X pins σ H s → wpAny (model X.prog X.w) X.A (isTrue e X.env whole) (TP X pins σ Q) X.xe s
def VA (X : Cx) (es : List Expr) (σ : L2.St) (H : Hp) (Q : List V → Hp → Prop) : Prop := ∀ (pos : Pos) (pins : List (Addr × Obj)) (s : Shared), Inv X pins σ H s → wpAny (model X.prog X.w) X.A (spliced (backTo pos (starEach es X.env))) (AP X pins σ Q) X.xe s
def VS (X : Cx) (st : Stmt) (σ : L2.St) (H : Hp) (D : Ends) : Prop := ∀ (pins : List (Addr × Obj)) (s : Shared), Inv X pins σ H s → wpAny (model X.prog X.w) X.A (exec st X.env) (SP X pins D) X.xe s
def VB (X : Cx) (st : List Stmt) (σ : L2.St) (H : Hp) (D : Ends) : Prop := ∀ (pins : List (Addr × Obj)) (s : Shared), Inv X pins σ H s → wpAny (model X.prog X.w) X.A (execs st X.env) (SP X pins D) X.xe s
theorem pe_self {X : Cx} {e : Expr} : PE X e (fun σ H Q => VE X e σ H Q) := ⟨fun pins s _ _ _ I h => h pins s I⟩
theorem pt_self {X : Cx} {e : Expr} : PT X e (fun σ H Q => VT X e σ H Q) := ⟨fun pins s _ _ _ I h => h pins s I⟩
theorem pw_self {X : Cx} {e : Expr} : PW X e (fun σ H Q => VU X e σ H Q) := ⟨fun w pins s _ _ _ I h => h w pins s I⟩
theorem pa_self {X : Cx} {es : List Expr} : PA X es (fun σ H Q => VA X es σ H Q) := ⟨fun pos pins s _ _ _ I h => h pos pins s I⟩
theorem ps_self {X : Cx} {st : Stmt} : PS X st (fun D σ H => VS X st σ H D) := ⟨fun pins s _ _ _ I h => h pins s I⟩
theorem pss_self {X : Cx} {st : List Stmt} : PSs X st (fun D σ H => VB X st σ H D) := ⟨fun pins s _ _ _ I h => h pins s I⟩
theorem ve_of {X : Cx} {e : Expr} {t : TE} {σ : L2.St} {H : Hp} {Q : VK} (h : PE X e t) (q : t σ H Q) : VE X e σ H Q := fun pins s I => h.run pins s σ H Q I q
theorem vt_of {X : Cx} {e : Expr} {t : TT} {σ : L2.St} {H : Hp} {Q : Bool → Hp → Prop} (h : PT X e t) (q : t σ H Q) : VT X e σ H Q := fun pins s I => h.run pins s σ H Q I q
theorem vu_of {X : Cx} {e : Expr} {t : TT} {σ : L2.St} {H : Hp} {Q : Bool → Hp → Prop} (h : PW X e t) (q : t σ H Q) : VU X e σ H Q := fun w pins s I => h.run w pins s σ H Q I q
theorem va_of {X : Cx} {e : List Expr} {t : TA} {σ : L2.St} {H : Hp} {Q : List V → Hp → Prop} (h : PA X e t) (q : t σ H Q) : VA X e σ H Q := fun pos pins s I => h.run pos pins s σ H Q I q
theorem vs_of {X : Cx} {e : Stmt} {t : TS} {σ : L2.St} {H : Hp} {D : Ends} (h : PS X e t) (q : t D σ H) : VS X e σ H D := fun pins s I => h.run pins s σ H D I q
theorem vb_of {X : Cx} {e : List Stmt} {t : TS} {σ : L2.St} {H : Hp} {D : Ends} (h : PSs X e t) (q : t D σ H) : VB X e σ H D := fun pins s I => h.run pins s σ H D I q

def XRel (K : PySem.W.Frag) (mg : Str → Option Value) (F : Hp) (x : Ex) (cls : Value) (d : Option Addr) (H : Hp) : Prop :=
  ∃ C, cls = .ref C ∧ mg x.cls = some (.ref C) ∧ match x.arg with
    | none => d = none
    | some (f, v) => ∃ a w, d = some a ∧ H a = some (.xd [(f, w)]) ∧ Dq K F w v

section
variable (K : PySem.W.Frag) (mg : Str → Option Value) (T : Tb) (σ : L2.St) (F : Hp) (as : List Addr)
def PostX (Wx : WX) (x : Ex) (μ' : Mem) : Prop := ∀ (cls : Value) (d : Option Addr) (H' F' : Hp) (as' : List Addr), Ext F as F' as' → Mm K T μ' H' F' as' → XRel K mg F' x cls d H' → Wx cls d σ H'
def PostE (Q : VK) (Wx : WX) : Rs R → Prop
  | .ok r μ' => ∀ (v : V) (H' F' : Hp) (as' : List Addr), Ext F as F' as' → Mm K T μ' H' F' as' → RelR K F' as' H' r v → Q v H'
  | .ex x μ' => PostX K mg T σ F as Wx x μ'
  | .no => False
def PostW (Q : VK) (Wx : WX) : Rs R → Prop
  | .ok r μ' => ∀ (v : V) (H' F' : Hp) (as' : List Addr), Ext F as F' as' → Mm K T μ' H' F' as' → RelW K F' as' r v → Q v H'
  | .ex x μ' => PostX K mg T σ F as Wx x μ'
  | .no => False
def PostT (Q : Bool → Hp → Prop) (Wx : WX) : Rs Bool → Prop
  | .ok b μ' => ∀ (H' F' : Hp) (as' : List Addr), Ext F as F' as' → Mm K T μ' H' F' as' → Q b H'
  | .ex x μ' => PostX K mg T σ F as Wx x μ'
  | .no => False
inductive RelWs (K : PySem.W.Frag) (F : Hp) (as : List Addr) : List R → List V → Prop
  | nil : RelWs K F as [] []
  | cons {r : R} {rs : List R} {v : V} {vs : List V} : RelW K F as r v → RelWs K F as rs vs → RelWs K F as (r :: rs) (v :: vs)
def PostA (Q : List V → Hp → Prop) (Wx : WX) : Rs (List R) → Prop
  | .ok rs μ' => ∀ (vs : List V) (H' F' : Hp) (as' : List Addr), Ext F as F' as' → Mm K T μ' H' F' as' → RelWs K F' as' rs vs → Q vs H'
  | .ex x μ' => PostX K mg T σ F as Wx x μ'
  | .no => False
end
theorem RelWs.mono {K : PySem.W.Frag} {F F' : Hp} {as as' : List Addr} (e : Ext F as F' as') : ∀ {rs : List R} {vs : List V}, RelWs K F as rs vs → RelWs K F' as' rs vs
  | _, _, .nil => .nil
  | _, _, .cons h t => .cons (h.mono e) (RelWs.mono e t)
theorem RelWs.length {K : PySem.W.Frag} {F : Hp} {as : List Addr} : ∀ {rs : List R} {vs : List V}, RelWs K F as rs vs → vs.length = rs.length
  | _, _, .nil => rfl
  | _, _, .cons h t => by rw [List.length_cons, List.length_cons, RelWs.length t]
section
variable {K : PySem.W.Frag} {mg : Str → Option Value} {T : Tb} {σ : L2.St} {F F1 : Hp} {as as1 : List Addr}
theorem PostX.ext {Wx : WX} {x : Ex} {μ' : Mem} (p : PostX K mg T σ F as Wx x μ') (e : Ext F as F1 as1) : PostX K mg T σ F1 as1 Wx x μ' := fun cls d H' F' as' e' m r => p cls d H' F' as' (e.trans e') m r
theorem PostE.ext {Q : VK} {Wx : WX} {r : Rs R} (p : PostE K mg T σ F as Q Wx r) (e : Ext F as F1 as1) : PostE K mg T σ F1 as1 Q Wx r := by
  cases r with
  | ok r μ' => exact fun v H' F' as' e' m r => p v H' F' as' (e.trans e') m r
  | ex x μ' => exact PostX.ext p e
  | no => exact p
theorem PostW.ext {Q : VK} {Wx : WX} {r : Rs R} (p : PostW K mg T σ F as Q Wx r) (e : Ext F as F1 as1) : PostW K mg T σ F1 as1 Q Wx r := by
  cases r with
  | ok r μ' => exact fun v H' F' as' e' m r => p v H' F' as' (e.trans e') m r
  | ex x μ' => exact PostX.ext p e
  | no => exact p
theorem PostT.ext {Q : Bool → Hp → Prop} {Wx : WX} {r : Rs Bool} (p : PostT K mg T σ F as Q Wx r) (e : Ext F as F1 as1) : PostT K mg T σ F1 as1 Q Wx r := by
  cases r with
  | ok r μ' => exact fun H' F' as' e' m => p H' F' as' (e.trans e') m
  | ex x μ' => exact PostX.ext p e
  | no => exact p
theorem PostA.ext {Q : List V → Hp → Prop} {Wx : WX} {r : Rs (List R)} (p : PostA K mg T σ F as Q Wx r) (e : Ext F as F1 as1) : PostA K mg T σ F1 as1 Q Wx r := by
  cases r with
  | ok r μ' => exact fun v H' F' as' e' m r => p v H' F' as' (e.trans e') m r
  | ex x μ' => exact PostX.ext p e
  | no => exact p
end

structure DE (X : Cx) (T : Tb) (e : Expr) (c : EC) : Prop where
  run : ∀ {ρ : Vr} {μ : Mem} {σ : L2.St} {H F : Hp} {as : List Addr}, Mm X.K T μ H F as → EnvR X.K ρ σ F as → ∀ {Q : VK} {Wx : WX}, Takes X Wx → PostE X.K X.mg T σ F as Q Wx (c ρ μ) → VE X e σ H Q
structure DW (X : Cx) (T : Tb) (e : Expr) (c : EC) : Prop where
  run : ∀ {ρ : Vr} {μ : Mem} {σ : L2.St} {H F : Hp} {as : List Addr}, Mm X.K T μ H F as → EnvR X.K ρ σ F as → ∀ {Q : VK} {Wx : WX}, Takes X Wx → PostW X.K X.mg T σ F as Q Wx (c ρ μ) → VE X e σ H Q
structure DT (X : Cx) (T : Tb) (e : Expr) (c : TC) : Prop where
  run : ∀ {ρ : Vr} {μ : Mem} {σ : L2.St} {H F : Hp} {as : List Addr}, Mm X.K T μ H F as → EnvR X.K ρ σ F as → ∀ {Q : Bool → Hp → Prop} {Wx : WX}, Takes X Wx → PostT X.K X.mg T σ F as Q Wx (c ρ μ) → VT X e σ H Q
/-- a test whatever its whole is -/
structure DU (X : Cx) (T : Tb) (e : Expr) (c : TC) : Prop where
  run : ∀ {ρ : Vr} {μ : Mem} {σ : L2.St} {H F : Hp} {as : List Addr}, Mm X.K T μ H F as → EnvR X.K ρ σ F as → ∀ {Q : Bool → Hp → Prop} {Wx : WX}, Takes X Wx → PostT X.K X.mg T σ F as Q Wx (c ρ μ) → VU X e σ H Q
structure DA (X : Cx) (T : Tb) (es : List Expr) (c : AC) : Prop where
  run : ∀ {ρ : Vr} {μ : Mem} {σ : L2.St} {H F : Hp} {as : List Addr}, Mm X.K T μ H F as → EnvR X.K ρ σ F as → ∀ {Q : List V → Hp → Prop} {Wx : WX}, Takes X Wx → PostA X.K X.mg T σ F as Q Wx (c ρ μ) → VA X es σ H Q

section
variable {X : Cx} {T : Tb} {σ : L2.St} {H F : Hp} {as : List Addr} {ρ : Vr} {μ : Mem}
/-- one after another: the first's end from the whole's -/
theorem e_bind {α : Type} {P : Rs α → Prop} {f : R → Mem → Rs α} {r : Rs R} {Q : VK} {Wx : WX} (hex : ∀ x μ', P (.ex x μ') → PostX X.K X.mg T σ F as Wx x μ') (hno : ¬ P .no) (p : P (r.bind f))
    (k : ∀ a μ', P (f a μ') → ∀ (v : V) (H' F' : Hp) (as' : List Addr), Ext F as F' as' → Mm X.K T μ' H' F' as' → RelR X.K F' as' H' a v → Q v H') : PostE X.K X.mg T σ F as Q Wx r := by
  cases r with
  | ok a μ' => exact k a μ' p
  | ex x μ' => exact hex x μ' p
  | no => exact (hno p).elim
theorem w_bind {α : Type} {P : Rs α → Prop} {f : R → Mem → Rs α} {r : Rs R} {Q : VK} {Wx : WX} (hex : ∀ x μ', P (.ex x μ') → PostX X.K X.mg T σ F as Wx x μ') (hno : ¬ P .no) (p : P (r.bind f))
    (k : ∀ a μ', P (f a μ') → ∀ (v : V) (H' F' : Hp) (as' : List Addr), Ext F as F' as' → Mm X.K T μ' H' F' as' → RelW X.K F' as' a v → Q v H') : PostW X.K X.mg T σ F as Q Wx r := by
  cases r with
  | ok a μ' => exact k a μ' p
  | ex x μ' => exact hex x μ' p
  | no => exact (hno p).elim
theorem t_bind {α : Type} {P : Rs α → Prop} {f : Bool → Mem → Rs α} {r : Rs Bool} {Q : Bool → Hp → Prop} {Wx : WX} (hex : ∀ x μ', P (.ex x μ') → PostX X.K X.mg T σ F as Wx x μ') (hno : ¬ P .no) (p : P (r.bind f))
    (k : ∀ a μ', P (f a μ') → ∀ (H' F' : Hp) (as' : List Addr), Ext F as F' as' → Mm X.K T μ' H' F' as' → Q a H') : PostT X.K X.mg T σ F as Q Wx r := by
  cases r with
  | ok a μ' => exact k a μ' p
  | ex x μ' => exact hex x μ' p
  | no => exact (hno p).elim
theorem a_bind {α : Type} {P : Rs α → Prop} {f : List R → Mem → Rs α} {r : Rs (List R)} {Q : List V → Hp → Prop} {Wx : WX} (hex : ∀ x μ', P (.ex x μ') → PostX X.K X.mg T σ F as Wx x μ') (hno : ¬ P .no) (p : P (r.bind f))
    (k : ∀ a μ', P (f a μ') → ∀ (vs : List V) (H' F' : Hp) (as' : List Addr), Ext F as F' as' → Mm X.K T μ' H' F' as' → RelWs X.K F' as' a vs → Q vs H') : PostA X.K X.mg T σ F as Q Wx r := by
  cases r with
  | ok a μ' => exact k a μ' p
  | ex x μ' => exact hex x μ' p
  | no => exact (hno p).elim
end

def cH (c : EC) : EC := fun ρ μ => (c ρ μ).bind hold
section
variable {X : Cx} {T : Tb} {pos : Pos}
theorem DE.hold {e : Expr} {c : EC} (h : DE X T e c) : DW X T e (cH c) := by
  refine ⟨fun {ρ μ σ H F as} m en {Q Wx} tk p => h.run m en tk (e_bind (P := PostW X.K X.mg T σ F as Q Wx) (fun _ _ p => p) (fun p => p) p fun a μ' p' v H' F' as' ex m' r => ?_)⟩
  cases hh : Em.hold a μ' with
  | ok r' μ2 =>
    rw [hh] at p'
    obtain ⟨F2, as2, e2, m2, r2⟩ := hold_ok m' r hh
    exact p' v H' F2 as2 (ex.trans e2) m2 r2
  | ex x μ2 => cases a <;> cases hh
  | no => cases a <;> cases hh
theorem DW.toE {e : Expr} {c : EC} (h : DW X T e c) : DE X T e c := by
  refine ⟨fun {ρ μ σ H F as} m en {Q Wx} tk p => h.run m en tk ?_⟩
  cases hc : c ρ μ with
  | ok r μ' => rw [hc] at p; exact fun v H' F' as' ex m' r => p v H' F' as' ex m' r.toR
  | ex x μ' => rw [hc] at p; exact p
  | no => rw [hc] at p; exact p

/-! ### names, constants -/
def cV (i : Nat) : EC := fun ρ μ => match ρ[i]? with
  | some (some r) => .ok r μ
  | _ => .no
def cK (x : D) : EC := fun _ μ => .ok (.d x) μ
theorem dw_var (i : Nat) {x : Str} (hN : X.N[i]? = some x := by rfl) (hv : Vis X.env.scope x := by first | exact Or.inl rfl | exact Or.inr (Or.inl rfl) | exact Or.inr (Or.inr rfl)) (hd : (x == ("__debug__" : Str)) = false := by decide)
    (hcd : (x == ("__classdict__" : Str)) = false := by decide) : DW X T (.Name x pos) (cV i) := by
  refine ⟨fun {ρ μ σ H F as} m en {Q Wx} tk p => ve_of (pe_var hN hv hd hcd) ?_⟩
  unfold cV at p
  cases hr : ρ[i]? with
  | none => simp only [hr] at p; exact p.elim
  | some o =>
    cases o with
    | none => simp only [hr] at p; exact p.elim
    | some r =>
      simp only [hr] at p
      obtain ⟨v, h1, h2⟩ := en.2 i r hr
      exact ⟨v, h1, p v H F as (Ext.refl _ _) m h2⟩
theorem dw_const {e : Expr} {v : V} {x : D} (h : PE X e (tC v)) (hd : ∀ F, Dq X.K F v x) : DW X T e (cK x) :=
  ⟨fun {ρ μ σ H F as} m en {Q Wx} tk p => ve_of h (p v H F as (Ext.refl _ _) m (hd F))⟩
theorem dw_int {i : Int} {j : Nat} : DW X T (.Constant (.int i) j pos) (cK (.int i)) := dw_const pe_int fun _ => .int i
theorem dw_bl {i : Bool} {j : Nat} : DW X T (.Constant (.bool i) j pos) (cK (.bool i)) := dw_const pe_bl fun _ => .bl i
theorem dw_non {j : Nat} : DW X T (.Constant .none j pos) (cK .none) := dw_const pe_non fun _ => .non
theorem dw_str {i : Str} {j : Nat} : DW X T (.Constant (.str i) j pos) (cK (.str i)) := dw_const pe_str fun _ => .str i
/-- a constant of the module -/
theorem dw_gInt {x : Str} {i : Int} {t : Tok} (hm : X.mg x = some (.int i t)) (hg : Gl X x := by rfl) (hd : (x == ("__debug__" : Str)) = false := by decide) : DW X T (.Name x pos) (cK (.int i)) := dw_const (pe_glob (v := .int i) hg hm ⟨t, rfl⟩ hd) fun _ => .int i
theorem dw_gStr {x : Str} {i : Str} {t : Tok} (hm : X.mg x = some (.str i t)) (hg : Gl X x := by rfl) (hd : (x == ("__debug__" : Str)) = false := by decide) : DW X T (.Name x pos) (cK (.str i)) := dw_const (pe_glob (v := .str i) hg hm ⟨t, rfl⟩ hd) fun _ => .str i

/-! ### operators -/
structure OpD (X : Cx) (T : Tb) (f : Value → Value → Sem Value) (o : R → R → Mem → Rs R) : Prop where
  run : ∀ {μ : Mem} {H F : Hp} {as : List Addr} {ra rb : R} {x y : V}, Mm X.K T μ H F as → RelW X.K F as ra x → RelW X.K F as rb y → ∀ {σ : L2.St} {Q : VK} {Wx : WX}, PostE X.K X.mg T σ F as Q Wx (o ra rb μ) → ∃ r, OpR X f r ∧ r x y H Q
def rAll2 (X : Cx) (f : Value → Value → Sem Value) : R2 := fun x y H Q => ∃ r, OpR X f r ∧ r x y H Q
theorem all2 {f : Value → Value → Sem Value} : OpR X f (rAll2 X f) := fun pins s σ H x y v u Q I rx ry ⟨r, h, q⟩ => h pins s σ H x y v u Q I rx ry q
def cBin (o : R → R → Mem → Rs R) (ca cb : EC) : EC := fun ρ μ => (ca ρ μ).bind fun ra μ1 => (cb ρ μ1).bind fun rb μ2 => o ra rb μ2
theorem bin_run {a b : Expr} {ca cb : EC} {f : Value → Value → Sem Value} {o : R → R → Mem → Rs R} (ho : OpD X T f o) (ha : DW X T a ca) (hb : DW X T b cb) {ρ : Vr} {μ : Mem} {σ : L2.St} {H F : Hp} {as : List Addr} (m : Mm X.K T μ H F as) (en : EnvR X.K ρ σ F as) {Q : VK} {Wx : WX} (tk : Takes X Wx)
    (p : PostE X.K X.mg T σ F as Q Wx (cBin o ca cb ρ μ)) : tOp (rAll2 X f) (fun σ H Q => VE X a σ H Q) (fun σ H Q => VE X b σ H Q) σ H Q := by
  refine ha.run m en tk (w_bind (P := PostE X.K X.mg T σ F as Q Wx) (fun _ _ p => p) (fun p => p) p fun ra μ1 p1 x H1 F1 as1 e1 m1 r1 => ?_)
  refine hb.run m1 (en.mono e1) tk (w_bind (P := PostE X.K X.mg T σ F1 as1 Q Wx) (fun _ _ p => p) (fun p => p) (p1.ext e1) fun rb μ2 p2 y H2 F2 as2 e2 m2 r2 => ?_)
  exact ho.run m2 (r1.mono e2) r2 (p2.ext e2)
theorem de_bin {op : Operator} {a b : Expr} {ca cb : EC} {o : R → R → Mem → Rs R} (ho : OpD X T (binaryOp op) o) (ha : DW X T a ca) (hb : DW X T b cb) : DE X T (.BinOp a op b pos) (cBin o ca cb) :=
  ⟨fun {_ _ _ _ _ _} m en {_ _} tk p => ve_of (pe_op all2 pe_self pe_self) (bin_run ho ha hb m en tk p)⟩
theorem de_cmp {op : CmpOp} {a b : Expr} {ca cb : EC} {o : R → R → Mem → Rs R} (ho : OpD X T (compareOp op) o) (ha : DW X T a ca) (hb : DW X T b cb) (hm : behindInMarks op b = false := by first | exact nomark _ | rfl) : DE X T (.Compare a [op] [b] pos) (cBin o ca cb) :=
  ⟨fun {_ _ _ _ _ _} m en {_ _} tk p => ve_of (pe_cmpR all2 pe_self pe_self hm) (bin_run ho ha hb m en tk p)⟩
/-- a value that is True or False -/
def bT (r : R) (μ : Mem) : Rs Bool := match r with
  | .d (.bool b) => .ok b μ
  | _ => .no
def cT (c : EC) : TC := fun ρ μ => (c ρ μ).bind bT
theorem t_of_e {ρ : Vr} {μ : Mem} {σ : L2.St} {F : Hp} {as : List Addr} {c : EC} {Q : Bool → Hp → Prop} {Wx : WX} (p : PostT X.K X.mg T σ F as Q Wx (cT c ρ μ)) : PostE X.K X.mg T σ F as (fun x H' => ∃ k, x = .bl k ∧ Q k H') Wx (c ρ μ) := by
  refine e_bind (P := PostT X.K X.mg T σ F as Q Wx) (fun _ _ p => p) (fun p => p) p fun a μ' p' v H' F' as' e' m' r => ?_
  cases a with
  | d x =>
    cases x with
    | bool b => cases r; exact ⟨b, rfl, p' H' F' as' e' m'⟩
    | _ => exact p'.elim
  | _ => exact p'.elim
theorem dt_cmp {op : CmpOp} {a b : Expr} {ca cb : EC} {o : R → R → Mem → Rs R} (ho : OpD X T (compareOp op) o) (ha : DW X T a ca) (hb : DW X T b cb) (hm : behindInMarks op b = false := by first | exact nomark _ | rfl) : DT X T (.Compare a [op] [b] pos) (cT (cBin o ca cb)) :=
  ⟨fun {_ _ _ _ _ _} m en {_ _} tk p => vt_of (pt_cmpR all2 pe_self pe_self hm) (bin_run ho ha hb m en tk (t_of_e p))⟩
theorem dt_val {e : Expr} {c : EC} (h : DE X T e c) (he : ∀ whole, isTrue e X.env whole = (do let v ← whole; standAt e.pos; holding [v] (truthy v)) := by intro _; rfl) : DT X T e (cT c) :=
  ⟨fun {_ _ _ _ _ _} m en {_ _} tk p => vt_of (pt_val pe_self he) (h.run m en tk (t_of_e p))⟩
/-! and, or, not as tests -/
def cAndT (a b : TC) : TC := fun ρ μ => (a ρ μ).bind fun k μ1 => if k = true then b ρ μ1 else .ok false μ1
def cOrT (a b : TC) : TC := fun ρ μ => (a ρ μ).bind fun k μ1 => if k = true then .ok true μ1 else b ρ μ1
def cNotT (a : TC) : TC := fun ρ μ => (a ρ μ).bind fun k μ1 => .ok (!k) μ1
theorem du_and1 {a : Expr} {ca : TC} (ha : DT X T a ca) : DU X T (.BoolOp .And [a] pos) ca := ⟨fun {_ _ _ _ _ _} m en {_ _} tk p => vu_of (pw_and1 pt_self) (ha.run m en tk p)⟩
theorem du_or1 {a : Expr} {ca : TC} (ha : DT X T a ca) : DU X T (.BoolOp .Or [a] pos) ca := ⟨fun {_ _ _ _ _ _} m en {_ _} tk p => vu_of (pw_or1 pt_self) (ha.run m en tk p)⟩
theorem du_and {a b : Expr} {rest : List Expr} {ca cb : TC} (ha : DT X T a ca) (hb : DU X T (.BoolOp .And (b :: rest) pos) cb) : DU X T (.BoolOp .And (a :: b :: rest) pos) (cAndT ca cb) := by
  refine ⟨fun {ρ μ σ H F as} m en {Q Wx} tk p => vu_of (pw_and pt_self pw_self) (ha.run m en tk (t_bind (P := PostT X.K X.mg T σ F as Q Wx) (fun _ _ p => p) (fun p => p) p fun k μ1 p1 H1 F1 as1 e1 m1 => ?_))⟩
  cases k with
  | true => exact hb.run m1 (en.mono e1) tk (p1.ext e1)
  | false => exact p1 H1 F1 as1 e1 m1
theorem du_or {a b : Expr} {rest : List Expr} {ca cb : TC} (ha : DT X T a ca) (hb : DU X T (.BoolOp .Or (b :: rest) pos) cb) : DU X T (.BoolOp .Or (a :: b :: rest) pos) (cOrT ca cb) := by
  refine ⟨fun {ρ μ σ H F as} m en {Q Wx} tk p => vu_of (pw_or pt_self pw_self) (ha.run m en tk (t_bind (P := PostT X.K X.mg T σ F as Q Wx) (fun _ _ p => p) (fun p => p) p fun k μ1 p1 H1 F1 as1 e1 m1 => ?_))⟩
  cases k with
  | true => exact p1 H1 F1 as1 e1 m1
  | false => exact hb.run m1 (en.mono e1) tk (p1.ext e1)
theorem DU.t {e : Expr} {c : TC} (h : DU X T e c) : DT X T e c := ⟨fun {_ _ _ _ _ _} m en {_ _} tk p => vt_of pw_self.pt (h.run m en tk p)⟩
theorem dt_not {a : Expr} {ca : TC} (ha : DT X T a ca) : DT X T (.UnaryOp .Not a pos) (cNotT ca) :=
  ⟨fun {ρ μ σ H F as} m en {Q Wx} tk p => vt_of (pt_not pt_self) (ha.run m en tk (t_bind (P := PostT X.K X.mg T σ F as Q Wx) (fun _ _ p => p) (fun p => p) p fun k μ1 p1 H1 F1 as1 e1 m1 => p1 H1 F1 as1 e1 m1))⟩
/-! .. as values -/
def cAndV (a b : EC) : EC := fun ρ μ => (a ρ μ).bind fun r μ1 => (bT r μ1).bind fun k μ2 => if k = true then b ρ μ2 else .ok (.d (.bool false)) μ2
def cOrV (a b : EC) : EC := fun ρ μ => (a ρ μ).bind fun r μ1 => (bT r μ1).bind fun k μ2 => if k = true then .ok (.d (.bool true)) μ2 else b ρ μ2
def cNotV (a : EC) : EC := fun ρ μ => (a ρ μ).bind fun r μ1 => (bT r μ1).bind fun k μ2 => .ok (.d (.bool (!k))) μ2
theorem de_one {op : BoolOp} {a : Expr} {ca : EC} (ha : DE X T a ca) : DE X T (.BoolOp op [a] pos) ca := ⟨fun {_ _ _ _ _ _} m en {_ _} tk p => ve_of (pe_one pe_self) (ha.run m en tk p)⟩
theorem bT_cases {r : R} {μ : Mem} {α : Type} {P : Rs α → Prop} (hno : ¬ P .no) {f : Bool → Mem → Rs α} (p : P ((bT r μ).bind f)) : ∃ b, r = .d (.bool b) ∧ P (f b μ) := by
  cases r with
  | d x =>
    cases x with
    | bool b => exact ⟨b, rfl, p⟩
    | _ => exact (hno p).elim
  | _ => exact (hno p).elim
theorem de_and {a b : Expr} {rest : List Expr} {ca cb : EC} (ha : DE X T a ca) (hb : DE X T (.BoolOp .And (b :: rest) pos) cb) : DE X T (.BoolOp .And (a :: b :: rest) pos) (cAndV ca cb) := by
  refine ⟨fun {ρ μ σ H F as} m en {Q Wx} tk p => ve_of (pe_and pe_self pe_self) (ha.run m en tk (e_bind (P := PostE X.K X.mg T σ F as Q Wx) (fun _ _ p => p) (fun p => p) p fun r μ1 p1 v H1 F1 as1 e1 m1 r1 => ?_))⟩
  obtain ⟨k, rfl, p2⟩ := bT_cases (P := PostE X.K X.mg T σ F as Q Wx) (fun p => p) p1
  cases r1
  refine ⟨k, rfl, ?_⟩
  cases k with
  | true => exact hb.run m1 (en.mono e1) tk (p2.ext e1)
  | false => exact p2 _ H1 F1 as1 e1 m1 (.bl false)
theorem de_or {a b : Expr} {rest : List Expr} {ca cb : EC} (ha : DE X T a ca) (hb : DE X T (.BoolOp .Or (b :: rest) pos) cb) : DE X T (.BoolOp .Or (a :: b :: rest) pos) (cOrV ca cb) := by
  refine ⟨fun {ρ μ σ H F as} m en {Q Wx} tk p => ve_of (pe_or pe_self pe_self) (ha.run m en tk (e_bind (P := PostE X.K X.mg T σ F as Q Wx) (fun _ _ p => p) (fun p => p) p fun r μ1 p1 v H1 F1 as1 e1 m1 r1 => ?_))⟩
  obtain ⟨k, rfl, p2⟩ := bT_cases (P := PostE X.K X.mg T σ F as Q Wx) (fun p => p) p1
  cases r1
  refine ⟨k, rfl, ?_⟩
  cases k with
  | true => exact p2 _ H1 F1 as1 e1 m1 (.bl true)
  | false => exact hb.run m1 (en.mono e1) tk (p2.ext e1)
theorem de_not {a : Expr} {ca : EC} (ha : DE X T a ca) : DE X T (.UnaryOp .Not a pos) (cNotV ca) := by
  refine ⟨fun {ρ μ σ H F as} m en {Q Wx} tk p => ve_of (pe_not pe_self) (ha.run m en tk (e_bind (P := PostE X.K X.mg T σ F as Q Wx) (fun _ _ p => p) (fun p => p) p fun r μ1 p1 v H1 F1 as1 e1 m1 r1 => ?_))⟩
  obtain ⟨k, rfl, p2⟩ := bT_cases (P := PostE X.K X.mg T σ F as Q Wx) (fun p => p) p1
  cases r1
  exact ⟨k, rfl, p2 _ H1 F1 as1 e1 m1 (.bl _)⟩
def cIf (t : TC) (a b : EC) : EC := fun ρ μ => (t ρ μ).bind fun k μ1 => if k = true then a ρ μ1 else b ρ μ1
theorem de_if {t a b : Expr} {ct : TC} {ca cb : EC} (ht : DT X T t ct) (ha : DE X T a ca) (hb : DE X T b cb) : DE X T (.IfExp t a b pos) (cIf ct ca cb) := by
  refine ⟨fun {ρ μ σ H F as} m en {Q Wx} tk p => ve_of (pe_ifExp pt_self pe_self pe_self) (ht.run m en tk (t_bind (P := PostE X.K X.mg T σ F as Q Wx) (fun _ _ p => p) (fun p => p) p fun k μ1 p1 H1 F1 as1 e1 m1 => ?_))⟩
  cases k with
  | true => exact ha.run m1 (en.mono e1) tk (p1.ext e1)
  | false => exact hb.run m1 (en.mono e1) tk (p1.ext e1)

/-! ### arguments -/
def cNil : AC := fun _ μ => .ok [] μ
def cCons (c : EC) (cs : AC) : AC := fun ρ μ => (c ρ μ).bind fun r μ1 => (cs ρ μ1).bind fun rs μ2 => .ok (r :: rs) μ2
theorem da_nil : DA X T [] cNil := ⟨fun {ρ μ σ H F as} m en {Q Wx} tk p => va_of pa_nil (p [] H F as (Ext.refl _ _) m .nil)⟩
theorem da_cons {e : Expr} {es : List Expr} {c : EC} {cs : AC} (h : DW X T e c) (hs : DA X T es cs) (hst : starEach (e :: es) X.env = (false, eval e X.env) :: starEach es X.env := by rfl) : DA X T (e :: es) (cCons c cs) := by
  refine ⟨fun {ρ μ σ H F as} m en {Q Wx} tk p => va_of (pa_cons pe_self pa_self hst) (h.run m en tk (w_bind (P := PostA X.K X.mg T σ F as Q Wx) (fun _ _ p => p) (fun p => p) p fun r μ1 p1 v H1 F1 as1 e1 m1 r1 => ?_))⟩
  refine hs.run m1 (en.mono e1) tk (a_bind (P := PostA X.K X.mg T σ F1 as1 Q Wx) (fun _ _ p => p) (fun p => p) (p1.ext e1) fun rs μ2 p2 vs H2 F2 as2 e2 m2 r2 => ?_)
  exact p2 _ H2 F2 as2 e2 m2 (.cons (r1.mono e2) r2)
/-- an argument that is kept as data -/
def cD (c : EC) : EC := fun ρ μ => (c ρ μ).bind toD
theorem DE.data {e : Expr} {c : EC} (h : DE X T e c) : DW X T e (cD c) := by
  refine ⟨fun {ρ μ σ H F as} m en {Q Wx} tk p => h.run m en tk (e_bind (P := PostW X.K X.mg T σ F as Q Wx) (fun _ _ p => p) (fun p => p) p fun a μ' p' v H' F' as' ex m' r => ?_)⟩
  cases hh : toD a μ' with
  | ok r' μ2 =>
    rw [hh] at p'
    obtain ⟨F2, d, rfl, e2, m2, r2⟩ := toD_ok m' r hh
    exact p' v H' F2 as' (ex.trans e2) m2 r2
  | ex x μ2 =>
    rw [hh] at p'
    cases a <;> simp only [toD] at hh <;> try cases hh
    split at hh <;> cases hh
  | no => rw [hh] at p'; exact p'.elim

/-! ### calls of what is built in -/
structure CallD (X : Cx) (T : Tb) (f : Value) (o : List R → Mem → Rs R) : Prop where
  run : ∀ {μ : Mem} {H F : Hp} {as : List Addr} {rs : List R} {xs : List V}, Mm X.K T μ H F as → RelWs X.K F as rs xs → ∀ {σ : L2.St} {Q : VK} {Wx : WX}, PostE X.K X.mg T σ F as Q Wx (o rs μ) → ∃ r, CallR X f r ∧ r xs H Q
def rAllC (X : Cx) (f : Value) : List V → Hp → VK → Prop := fun x H Q => ∃ r, CallR X f r ∧ r x H Q
theorem allC {f : Value} : CallR X f (rAllC X f) := fun pins s σ H x v Q I rx ⟨r, h, q⟩ => h pins s σ H x v Q I rx q
def cCall (o : List R → Mem → Rs R) (ca : AC) : EC := fun ρ μ => (ca ρ μ).bind o
theorem de_callB {id : String} {x : Str} {e : Expr} {es : List Expr} {o : List R → Mem → Rs R} {ca : AC} {p : Pos} (hc : CallD X T (.builtin id) o) (hm : X.mg x = none) (ha : DA X T (e :: es) ca) (hv : bootBuiltins x = some (.builtin id) := by decide +kernel) (hg : Gl X x := by rfl) (hn : x ≠ "__name__" := by decide) (hdb : (x == ("__debug__" : Str)) = false := by decide)
    (he : starEach (e :: es) X.env = (false, eval e X.env) :: starEach es X.env := by rfl) (hpl : (backTo pos (starEach es X.env)).any (·.1) = false := by rfl) : DE X T (.Call (.Name x p) (e :: es) [] pos) (cCall o ca) := by
  refine ⟨fun {ρ μ σ H F as} m en {Q Wx} tk p => ve_of (pe_callB allC hg hm hv pa_self hn hdb he hpl) (ha.run m en tk (a_bind (P := PostE X.K X.mg T σ F as Q Wx) (fun _ _ p => p) (fun p => p) p fun rs μ1 p1 vs H1 F1 as1 e1 m1 r1 => ?_))⟩
  exact hc.run m1 r1 (p1.ext e1)
theorem de_callTy {id : String} {x : Str} {e : Expr} {es : List Expr} {o : List R → Mem → Rs R} {ca : AC} {p : Pos} (hc : CallD X T (.type id) o) (hm : X.mg x = none) (ha : DA X T (e :: es) ca) (hv : bootBuiltins x = some (.type id) := by decide +kernel) (hg : Gl X x := by rfl) (hn : x ≠ "__name__" := by decide) (hdb : (x == ("__debug__" : Str)) = false := by decide)
    (he : starEach (e :: es) X.env = (false, eval e X.env) :: starEach es X.env := by rfl) (hpl : (backTo pos (starEach es X.env)).any (·.1) = false := by rfl) : DE X T (.Call (.Name x p) (e :: es) [] pos) (cCall o ca) := by
  refine ⟨fun {ρ μ σ H F as} m en {Q Wx} tk p => ve_of (pe_callTy allC hg hm hv pa_self hn hdb he hpl) (ha.run m en tk (a_bind (P := PostE X.K X.mg T σ F as Q Wx) (fun _ _ p => p) (fun p => p) p fun rs μ1 p1 vs H1 F1 as1 e1 m1 r1 => ?_))⟩
  exact hc.run m1 r1 (p1.ext e1)
/-! ### displays -/
def opTup (rs : List R) (μ : Mem) : Rs R := match rs.mapM (fun r => match r with | .d x => some x | _ => none) with
  | some ds => if ds.length ≤ sizeLine then .ok (.d (.tuple ds)) μ else .no
  | none => .no
def opLst (rs : List R) (μ : Mem) : Rs R := match rs.mapM (fun r => match r with | .d x => some x | _ => none) with
  | some ds => if ds.length ≤ sizeLine then .ok (.fl ds) μ else .no
  | none => .no
theorem mapM_d {K : PySem.W.Frag} {F : Hp} {as : List Addr} : ∀ {rs : List R} {vs : List V} {ds : List D}, RelWs K F as rs vs → rs.mapM (fun r => match r with | .d x => some x | _ => none) = some ds → DqAll K F vs ds
  | _, _, ds, .nil, h => by simp at h; subst h; exact .nil
  | _, _, ds, .cons (r := r) (rs := rs) h t, e => by
    rw [List.mapM_cons] at e
    cases r with
    | d x =>
      simp only [Option.bind_eq_bind, Option.bind_some] at e
      cases hh : rs.mapM (fun r => match r with | .d x => some x | _ => none) with
      | none => rw [hh] at e; cases e
      | some es => rw [hh] at e; cases e; exact .cons h (mapM_d t hh)
    | c n => cases e
    | fl ds => cases e
    | fk ds => cases e
    | o b => cases e
theorem de_tup {es : List Expr} {ca : AC} {k : Nat} (ha : DA X T es ca) : DE X T (.Tuple es k pos) (cCall opTup ca) := by
  refine ⟨fun {ρ μ σ H F as} m en {Q Wx} tk p => ve_of (pe_tup pa_self) (ha.run m en tk (a_bind (P := PostE X.K X.mg T σ F as Q Wx) (fun _ _ p => p) (fun p => p) p fun rs μ1 p1 vs H1 F1 as1 e1 m1 r1 => ?_))⟩
  unfold opTup at p1
  split at p1
  · rename_i ds hds
    have hd := mapM_d r1 hds
    have hl := hd.length
    split at p1
    · rename_i hle
      refine ⟨by rw [hl]; exact hle, fun q hq => ?_⟩
      have hF := m1.freeF hq
      exact p1 _ _ (upd F1 q (.tup vs)) as1 (e1.trans (Ext.new hF)) ((m1.alloc hq).freeze hF upd_same (m1.notin hq) (fun ps z => by cases z)) (.tup (.inl (.inl upd_same)) (DqAll_mono (same_new hF) hd))
    · exact p1.elim
  · exact p1.elim
theorem de_lst {es : List Expr} {ca : AC} (ha : DA X T es ca) : DE X T (.List es pos) (cCall opLst ca) := by
  refine ⟨fun {ρ μ σ H F as} m en {Q Wx} tk p => ve_of (pe_lst pa_self) (ha.run m en tk (a_bind (P := PostE X.K X.mg T σ F as Q Wx) (fun _ _ p => p) (fun p => p) p fun rs μ1 p1 vs H1 F1 as1 e1 m1 r1 => ?_))⟩
  unfold opLst at p1
  split at p1
  · rename_i ds hds
    have hd := mapM_d r1 hds
    have hl := hd.length
    split at p1
    · rename_i hle
      refine ⟨by rw [hl]; exact hle, fun q hq => ?_⟩
      exact p1 _ _ F1 as1 e1 (m1.alloc hq) ⟨q, vs, rfl, m1.notin hq, m1.freeF hq, upd_same, hd⟩
    · exact p1.elim
  · exact p1.elim
end
end Em
set_option maxRecDepth 100000
namespace Em
open PySem PySem.Spec PyProof.Rows L2

section
variable {X : Cx} {T : Tb} {pos : Pos}
/-! ### subscripts, slices -/
structure IxD (X : Cx) (T : Tb) (o : R → R → Mem → Rs R) : Prop where
  run : ∀ {μ : Mem} {H F : Hp} {as : List Addr} {ra rb : R} {x y : V}, Mm X.K T μ H F as → RelW X.K F as ra x → RelW X.K F as rb y → ∀ {σ : L2.St} {Q : VK} {Wx : WX}, PostE X.K X.mg T σ F as Q Wx (o ra rb μ) → ∃ r, IxR X r ∧ r x y H Q
def rAllI (X : Cx) : R2 := fun x y H Q => ∃ r, IxR X r ∧ r x y H Q
theorem allI : IxR X (rAllI X) := fun value slice pins s σ H x y v u Q I rx ry ⟨r, h, q⟩ => h value slice pins s σ H x y v u Q I rx ry q
theorem de_ix {a b : Expr} {ca cb : EC} {o : R → R → Mem → Rs R} (ho : IxD X T o) (ha : DW X T a ca) (hb : DW X T b cb) (hs : PlainIx b := by intro _ _; rfl) : DE X T (.Subscript a b pos) (cBin o ca cb) := by
  refine ⟨fun {ρ μ σ H F as} m en {Q Wx} tk p => ve_of (pe_ix allI pe_self pe_self hs) ?_⟩
  refine ha.run m en tk (w_bind (P := PostE X.K X.mg T σ F as Q Wx) (fun _ _ p => p) (fun p => p) p fun ra μ1 p1 x H1 F1 as1 e1 m1 r1 => ?_)
  refine hb.run m1 (en.mono e1) tk (w_bind (P := PostE X.K X.mg T σ F1 as1 Q Wx) (fun _ _ p => p) (fun p => p) (p1.ext e1) fun rb μ2 p2 y H2 F2 as2 e2 m2 r2 => ?_)
  exact ho.run m2 (r1.mono e2) r2 (p2.ext e2)
def opIx (ra rb : R) (μ : Mem) : Rs R := match see rb μ with
  | some (.int i) => match see ra μ with
    | some (.list ds) => match atI ds i with
      | some d => .ok (.d d) μ
      | none => .no
    | some (.tuple ds) => match atI ds i with
      | some d => .ok (.d d) μ
      | none => .no
    | some (.str z) => if z.length ≤ sizeLine then (match atI z.cps.toList i with
      | some c => .ok (.d (.str ⟨#[c]⟩)) μ
      | none => .no) else .no
    | _ => .no
  | _ => .no
theorem atI_all {K : PySem.W.Frag} {F : Hp} {vs : List V} {ds : List D} {i : Int} {d : D} (h : DqAll K F vs ds) (e : atI ds i = some d) : ∃ v, atI vs i = some v ∧ Dq K F v d := by
  unfold atI at e ⊢
  rw [h.length]
  cases hi : ixN ds.length i with
  | none => rw [hi] at e; cases e
  | some j => rw [hi] at e; exact h.get e
theorem ix_all : IxD X T opIx := by
  refine ⟨fun {μ H F as ra rb x y} m r1 r2 {σ Q Wx} p => ?_⟩
  unfold opIx at p
  split at p
  · rename_i i hi
    obtain rfl := see_int r2 hi
    split at p
    · rename_i ds hds
      obtain ⟨a, vs, rfl, hL, hd⟩ := see_list m r1 hds
      split at p
      · rename_i d hd'
        obtain ⟨v, hv, dv⟩ := atI_all hd hd'
        exact ⟨_, ix_list, a, vs, i, v, rfl, rfl, .inl hL, hv, p v H F as (Ext.refl _ _) m dv⟩
      · exact p.elim
    · rename_i ds hds
      obtain ⟨a, vs, rfl, hL, _, hd⟩ := see_tup m r1 hds
      split at p
      · rename_i d hd'
        obtain ⟨v, hv, dv⟩ := atI_all hd hd'
        exact ⟨_, ix_tup, a, vs, i, v, rfl, rfl, hL, hv, p v H F as (Ext.refl _ _) m dv⟩
      · exact p.elim
    · rename_i z hz
      obtain rfl := see_str r1 hz
      split at p
      · rename_i hl
        split at p
        · rename_i c hc
          exact ⟨_, ix_str, z, i, c, rfl, rfl, hl, hc, p _ H F as (Ext.refl _ _) m (.str _)⟩
        · exact p.elim
      · exact p.elim
    · exact p.elim
  · exact p.elim
/-! slices -/
def cutD {α : Type} (xs : List α) (lo hi : Option Int) : List α := (xs.drop (HT.sIx xs.length 0 lo)).take (HT.sIx xs.length xs.length hi - HT.sIx xs.length 0 lo)
theorem cutD_all {K : PySem.W.Frag} {F : Hp} {vs : List V} {ds : List D} {lo hi : Option Int} (h : DqAll K F vs ds) : DqAll K F (cutV vs lo hi) (cutD ds lo hi) := by
  unfold cutV cutD
  rw [h.length]
  exact (h.drop _).take _
abbrev PC' := Vr → Mem → Rs (Option Int)
def PostP (K : PySem.W.Frag) (mg : Str → Option Value) (T : Tb) (σ : L2.St) (F : Hp) (as : List Addr) (Q : Option Int → Hp → Prop) (Wx : WX) : Rs (Option Int) → Prop
  | .ok b μ' => ∀ (H' F' : Hp) (as' : List Addr), Ext F as F' as' → Mm K T μ' H' F' as' → Q b H'
  | .ex x μ' => PostX K mg T σ F as Wx x μ'
  | .no => False
theorem PostP.ext {σ : L2.St} {F F1 : Hp} {as as1 : List Addr} {Q : Option Int → Hp → Prop} {Wx : WX} {r : Rs (Option Int)} (p : PostP X.K X.mg T σ F as Q Wx r) (e : Ext F as F1 as1) : PostP X.K X.mg T σ F1 as1 Q Wx r := by
  cases r with
  | ok r μ' => exact fun H' F' as' e' m => p H' F' as' (e.trans e') m
  | ex x μ' => exact PostX.ext p e
  | no => exact p
structure DP (X : Cx) (T : Tb) (e : Option Expr) (c : PC') : Prop where
  run : ∃ t : TO, PO X e t ∧ ∀ {ρ : Vr} {μ : Mem} {σ : L2.St} {H F : Hp} {as : List Addr}, Mm X.K T μ H F as → EnvR X.K ρ σ F as → ∀ {Q : Option Int → Hp → Prop} {Wx : WX}, Takes X Wx → PostP X.K X.mg T σ F as Q Wx (c ρ μ) → t σ H Q
def cNoPart : PC' := fun _ μ => .ok none μ
def iP (r : R) (μ : Mem) : Rs (Option Int) := match r with
  | .d (.int i) => .ok (some i) μ
  | _ => .no
def cPart (c : EC) : PC' := fun ρ μ => (c ρ μ).bind iP
theorem dp_none : DP X T none cNoPart := ⟨_, po_none, fun {ρ μ σ H F as} m en {Q Wx} tk p => p H F as (Ext.refl _ _) m⟩
theorem dp_some {e : Expr} {c : EC} (h : DE X T e c) : DP X T (some e) (cPart c) := by
  refine ⟨_, po_some pe_self, fun {ρ μ σ H F as} m en {Q Wx} tk p => h.run m en tk (e_bind (P := PostP X.K X.mg T σ F as Q Wx) (fun _ _ p => p) (fun p => p) p fun r μ1 p1 v H1 F1 as1 e1 m1 r1 => ?_)⟩
  cases r with
  | d x =>
    cases x with
    | int i => cases r1; exact ⟨i, rfl, p1 H1 F1 as1 e1 m1⟩
    | _ => exact p1.elim
  | _ => exact p1.elim
def opSl (ra : R) (lo hi : Option Int) (μ : Mem) : Rs R := match see ra μ with
  | some (.list ds) => .ok (.fl (cutD ds lo hi)) μ
  | some (.tuple ds) => .ok (.d (.tuple (cutD ds lo hi))) μ
  | some (.str z) => if z.length ≤ sizeLine then .ok (.d (.str (cutS z lo hi))) μ else .no
  | _ => .no
def rAllS (X : Cx) : V → Option Int → Option Int → Hp → VK → Prop := fun x lo hi H Q => ∃ r, SlR X r ∧ r x lo hi H Q
theorem allS : L2.SlR X (rAllS X) := fun pins s σ H x v vl vu lo hi sl Q I rx hs pl pu ⟨r, h, q⟩ => h pins s σ H x v vl vu lo hi sl Q I rx hs pl pu q
def cSl (c : EC) (l h : PC') : EC := fun ρ μ => (c ρ μ).bind fun ra μ1 => (l ρ μ1).bind fun lo μ2 => (h ρ μ2).bind fun hi μ3 => opSl ra lo hi μ3
theorem p_bind {α : Type} {P : Rs α → Prop} {f : Option Int → Mem → Rs α} {r : Rs (Option Int)} {Q : Option Int → Hp → Prop} {Wx : WX} {σ : L2.St} {F : Hp} {as : List Addr} (hex : ∀ x μ', P (.ex x μ') → PostX X.K X.mg T σ F as Wx x μ') (hno : ¬ P .no) (p : P (r.bind f))
    (k : ∀ a μ', P (f a μ') → ∀ (H' F' : Hp) (as' : List Addr), Ext F as F' as' → Mm X.K T μ' H' F' as' → Q a H') : PostP X.K X.mg T σ F as Q Wx r := by
  cases r with
  | ok a μ' => exact k a μ' p
  | ex x μ' => exact hex x μ' p
  | no => exact (hno p).elim
theorem cutD_len {α : Type} (xs : List α) (lo hi : Option Int) : (cutD xs lo hi).length ≤ xs.length := by
  unfold cutD
  rw [List.length_take, List.length_drop]
  omega
theorem cutV_whole {xs : List V} {lo hi : Option Int} (h : HT.sIx xs.length 0 lo = 0 ∧ HT.sIx xs.length xs.length hi = xs.length) : cutV xs lo hi = xs := by
  unfold cutV
  rw [h.1, h.2]
  simp
theorem de_sl {e : Expr} {lo hi : Option Expr} {c : EC} {cl ch : PC'} {p2 : Pos} (he : DW X T e c) (hl : DP X T lo cl) (hh : DP X T hi ch) : DE X T (.Subscript e (.Slice lo hi none p2) pos) (cSl c cl ch) := by
  obtain ⟨tl, pl, gl⟩ := hl
  obtain ⟨th, ph, gh⟩ := hh
  refine ⟨fun {ρ μ σ H F as} m en {Q Wx} tk p => ve_of (pe_slice allS pe_self pl ph) ?_⟩
  refine he.run m en tk (w_bind (P := PostE X.K X.mg T σ F as Q Wx) (fun _ _ p => p) (fun p => p) p fun ra μ1 p1 x H1 F1 as1 e1 m1 r1 => ?_)
  refine gl m1 (en.mono e1) tk (p_bind (P := PostE X.K X.mg T σ F1 as1 Q Wx) (fun _ _ p => p) (fun p => p) (p1.ext e1) fun lo' μ2 p2 H2 F2 as2 e2 m2 => ?_)
  refine gh m2 (en.mono (e1.trans e2)) tk (p_bind (P := PostE X.K X.mg T σ F2 as2 Q Wx) (fun _ _ p => p) (fun p => p) (p2.ext e2) fun hi' μ3 p3 H3 F3 as3 e3 m3 => ?_)
  have r3 := r1.mono (e2.trans e3)
  have p4 := p3.ext e3
  unfold opSl at p4
  split at p4
  · rename_i ds hds
    obtain ⟨a, vs, rfl, hL, hd⟩ := see_list m3 r3 hds
    exact ⟨_, sl_list, a, vs, rfl, .inl hL, fun q hq => p4 _ _ F3 as3 (Ext.refl _ _) (m3.alloc hq) ⟨q, _, rfl, m3.notin hq, m3.freeF hq, upd_same, cutD_all hd⟩⟩
  · rename_i ds hds
    obtain ⟨a, vs, rfl, hL, hLF, hd⟩ := see_tup m3 r3 hds
    refine ⟨_, sl_tupA, a, vs, rfl, hL, fun hw => ?_, fun hw q hq => ?_⟩
    · have z := cutD_all (lo := lo') (hi := hi') hd
      rw [cutV_whole hw] at z
      exact p4 _ _ F3 as3 (Ext.refl _ _) m3 (.tup hLF z)
    · have hF := m3.freeF hq
      exact p4 _ _ _ as3 (Ext.new hF) ((m3.alloc hq).freeze hF upd_same (m3.notin hq) (fun ps z => by cases z)) (.tup (.inl (.inl upd_same)) (DqAll_mono (same_new hF) (cutD_all hd)))
  · rename_i z hz
    obtain rfl := see_str r3 hz
    split at p4
    · rename_i hle
      exact ⟨_, sl_str, z, rfl, hle, p4 _ _ F3 as3 (Ext.refl _ _) m3 (.str _)⟩
    · exact p4.elim
  · exact p4.elim

/-! ### methods of what is built in -/
structure MtD (X : Cx) (T : Tb) (Ty : String) (id : String) (o : R → List R → Mem → Rs R) : Prop where
  run : ∀ {μ : Mem} {H F : Hp} {as : List Addr} {r : R} {rs : List R} {x : V} {xs : List V}, Mm X.K T μ H F as → RelW X.K F as r x → RelWs X.K F as rs xs → ∀ {σ : L2.St} {Q : VK} {Wx : WX}, PostE X.K X.mg T σ F as Q Wx (o r rs μ) → ∃ q, MtR X id q ∧ q x xs H Q
def rAllM (X : Cx) (id : String) : V → List V → Hp → VK → Prop := fun x xs H Q => ∃ r, MtR X id r ∧ r x xs H Q
theorem allM {id : String} : MtR X id (rAllM X id) := fun pins s σ H x xs v us Q I rx rs ⟨r, h, q⟩ => h pins s σ H x xs v us Q I rx rs q
/-- of that type, now -/
def isTy (Ty : String) (r : R) (μ : Mem) : Bool := match r with
  | .d (.list _) => Ty == "list"
  | .d (.str _) => Ty == "str"
  | .d (.int _) => Ty == "int"
  | .c n => match μ[n]? with
    | some (.dk _) => Ty == "dict"
    | some _ => Ty == "list"
    | none => false
  | _ => false
theorem isTy_ok {Ty : String} {μ : Mem} {H F : Hp} {as : List Addr} {r : R} {x : V} (m : Mm X.K T μ H F as) (h : RelW X.K F as r x) (e : isTy Ty r μ = true) : tyV X.K Ty x H := by
  cases r with
  | d d =>
    cases d with
    | list ds => cases h with
      | lst h1 h2 => exact .inl ⟨eq_of_beq (show (Ty == "list") = true from e), _, .inl (Rd_mono m.same h1)⟩
    | str z => cases h; exact eq_of_beq (show (Ty == "str") = true from e)
    | int z => cases h; exact eq_of_beq (show (Ty == "int") = true from e)
    | none => exact absurd e (by simp [isTy])
    | bool b => exact absurd e (by simp [isTy])
    | tuple b => exact absurd e (by simp [isTy])
    | dict b => exact absurd e (by simp [isTy])
  | c n =>
    obtain ⟨a, ha, rfl⟩ := h
    unfold isTy at e
    cases hc : μ[n]? with
    | none => simp only [hc] at e; exact absurd e (by decide)
    | some c =>
      have q := m.cell n c a hc ha
      cases c with
      | lst ds => simp only [hc] at e; obtain ⟨_, vs, h1, _⟩ := q; exact .inl ⟨eq_of_beq e, vs, .inl (.inl h1)⟩
      | frz ds => simp only [hc] at e; obtain ⟨vs, h1, _⟩ := q; exact .inl ⟨eq_of_beq e, vs, .inl (.inl (m.same _ _ h1))⟩
      | dk kvs => simp only [hc] at e; obtain ⟨_, kv, h1, _⟩ := q; exact .inr (.inr (.inl ⟨eq_of_beq e, .inl ⟨kv, h1⟩⟩))
  | fl ds => exact h.elim
  | fk ds => exact h.elim
  | o b => exact absurd e (by simp [isTy])
def cMt (Ty : String) (o : R → List R → Mem → Rs R) (c : EC) (ca : AC) : EC := fun ρ μ => (c ρ μ).bind fun r μ1 => if isTy Ty r μ1 = true then (ca ρ μ1).bind fun rs μ2 => o r rs μ2 else .no
theorem de_mt {Ty id : String} {name : Str} {ob e : Expr} {es : List Expr} {o : R → List R → Mem → Rs R} {c : EC} {ca : AC} {apos : Pos} (hm : MtD X T Ty id o) (ho : DW X T ob c) (ha : DA X T (e :: es) ca)
    (pa : PlainAttrs Ty) (slot : Slot Ty name id) (hty : typeOf (.builtin id) = pure (.type "method_descriptor"))
    (hbase : attributeBase ob name X.env (eval ob X.env) = eval ob X.env := by rfl)
    (hfew : ((backTo pos (starEach (e :: es) X.env)).all (fun x => !x.1) && (backToKw pos (keywordEach [] X.env)).all (fun x => x.1.isSome)
      && decide ((e :: es).length + ([] : List Keyword).length + (if ([] : List Keyword).isEmpty then 0 else 1) < 30)) = true := by rfl)
    (hline : (apos.endLine == pos.line) = true := by rfl) (hs : starEach (e :: es) X.env = (false, eval e X.env) :: starEach es X.env := by rfl) (hplain : (backTo pos (starEach es X.env)).any (·.1) = false := by rfl) :
    DE X T (.Call (.Attribute ob name apos) (e :: es) [] pos) (cMt Ty o c ca) := by
  refine ⟨fun {ρ μ σ H F as} m en {Q Wx} tk p => ve_of (pe_bm pa slot hty allM pe_self pa_self hbase hfew hline hs hplain) ?_⟩
  refine ho.run m en tk (w_bind (P := PostE X.K X.mg T σ F as Q Wx) (fun _ _ p => p) (fun p => p) p fun r μ1 p1 x H1 F1 as1 e1 m1 r1 => ?_)
  split at p1
  · rename_i hi
    refine ⟨isTy_ok m1 r1 hi, ha.run m1 (en.mono e1) tk (a_bind (P := PostE X.K X.mg T σ F1 as1 Q Wx) (fun _ _ p => p) (fun p => p) (p1.ext e1) fun rs μ2 p2 xs H2 F2 as2 e2 m2 r2 => ?_)⟩
    exact hm.run m2 (r1.mono e2) r2 (p2.ext e2)
  · exact p1.elim
theorem de_mt0 {Ty id : String} {name : Str} {ob : Expr} {o : R → List R → Mem → Rs R} {c : EC} {apos : Pos} (hm : MtD X T Ty id o) (ho : DW X T ob c)
    (pa : PlainAttrs Ty) (slot : Slot Ty name id) (hty : typeOf (.builtin id) = pure (.type "method_descriptor"))
    (hbase : attributeBase ob name X.env (eval ob X.env) = eval ob X.env := by rfl) (hline : (apos.endLine == pos.line) = true := by rfl) :
    DE X T (.Call (.Attribute ob name apos) [] [] pos) (cMt Ty o c cNil) := by
  refine ⟨fun {ρ μ σ H F as} m en {Q Wx} tk p => ve_of (pe_bm0 pa slot hty allM pe_self hbase hline) ?_⟩
  refine ho.run m en tk (w_bind (P := PostE X.K X.mg T σ F as Q Wx) (fun _ _ p => p) (fun p => p) p fun r μ1 p1 x H1 F1 as1 e1 m1 r1 => ?_)
  split at p1
  · rename_i hi
    exact ⟨isTy_ok m1 r1 hi, hm.run m1 r1 .nil (show PostE X.K X.mg T σ F1 as1 Q Wx (o r [] μ1) from PostE.ext p1 e1)⟩
  · exact p1.elim
end

end Em
set_option maxRecDepth 100000
namespace Em
open PySem PySem.Spec PyProof.Rows L2

/-! ### defs -/
abbrev Fn := List R → Mem → Rs R
/-- what a call of a def promises -/
def spOf (T : Tb) (K : PySem.W.Frag) (mg : Str → Option Value) (n : Nat) (φ : Fn) : Sp := fun vs H Q E => vs.length = n ∧ ∃ ws μ F as, Mm K T μ H F as ∧ RelWs K F as ws vs ∧
  match φ ws μ with
  | .ok r μ' => ∀ (v : V) (H' F' : Hp), Same F F' → Mm K T μ' H' F' as → RelR K F' as H' r v → Q v H'
  | .ex x μ' => ∀ (cls : Value) (d : Option Addr) (H' F' : Hp), Same F F' → Mm K T μ' H' F' as → XRel K mg F' x cls d H' → E cls d H'
  | .no => False
/-- a def that may be called: its name, how many parameters, its level, what it does -/
structure Callee (P : Program) (w : World) (K : PySem.W.Frag) (mg : Str → Option Value) (base : Heap) (T : Tb) (x : Str) (n k : Nat) (φ : Fn) : Prop where
  ex : ∃ (f : Addr) (fd : FuncData) (ps : List Str), FnOk P w K mg base (L2.CX P w) k f fd ps (spOf T K mg n φ) ∧ mg x = some (.ref f) ∧ PySem.W.keepIn K (.ref f) = true ∧ Binds K fd ps []
theorem Ext.eqv {F F' : Hp} {as : List Addr} (e : Same F F') : Ext F as F' as := ⟨e, [], (List.append_nil as).symm⟩
section
variable {X : Cx} {T : Tb} {pos : Pos}
theorem call_sp {n : Nat} {φ : Fn} {Wx : WX} {Q : VK} {σ : L2.St} {rs : List R} {vs : List V} {μ : Mem} {H F : Hp} {as : List Addr} (m : Mm X.K T μ H F as) (r : RelWs X.K F as rs vs) (hn : rs.length = n) (p : PostE X.K X.mg T σ F as Q Wx (φ rs μ)) :
    spOf T X.K X.mg n φ vs H Q (fun cls d H' => Wx cls d σ H') := by
  refine ⟨by rw [r.length, hn], rs, μ, F, as, m, r, ?_⟩
  cases hφ : φ rs μ with
  | ok a μ' => rw [hφ] at p; exact fun v H' F' s m' q => p v H' F' as (Ext.eqv s) m' q
  | ex x μ' => rw [hφ] at p; exact fun cls d H' F' s m' q => p cls d H' F' as (Ext.eqv s) m' q
  | no => rw [hφ] at p; exact p
/-- f(..) -/
def cFn (n : Nat) (φ : Fn) (ca : AC) : EC := fun ρ μ => (ca ρ μ).bind fun rs μ1 => if rs.length = n then φ rs μ1 else .no
/-- the callee's run, what it lets out being asked of this very state -/
theorem run_at {sp : Sp} {k : Nat} {f : Addr} {fd : FuncData} {ps : List Str} {E : XK} {pins : List (Addr × Obj)} {σ : L2.St} {H : Hp} {s : Shared} {Q : VK} {us : List Value} {vs : List V}
    (G : FnOk X.prog X.w X.K X.mg X.base (L2.CX X.prog X.w) k f fd ps sp) (room : Room k X.A) (bd : Binds X.K fd ps []) (out : ∀ e s', L2.CX X.prog X.w X.stack H s E e s' → X.xe e s') (I : Inv X pins σ H s) (rel : Vals vs us) (q : sp vs H Q E) :
    wpAny (model X.prog X.w) X.A (call (.ref f) us) (EP X pins σ Q) X.xe s := by
  have len : (us ++ []).length = ps.length := by rw [List.append_nil, ← rel.length]; exact G.len _ _ _ _ q
  have bt := bd s us I.kIn len
  rw [List.append_nil] at bt
  have go := G.run X.A X.stack s H ⟨us, []⟩ us vs Q E room I.env0 bt rel q
  refine wpAny_call (codeAny_mono go ?_)
  intro res s' hres
  match res, hres with
  | .error e, hres => exact out e s' hres
  | .ok (.ret u), hres => exact I.after hres
  | .ok .next, hres => exact hres.elim
  | .ok .brk, hres => exact hres.elim
  | .ok .cont, hres => exact hres.elim
theorem de_fn {x : Str} {n k k' : Nat} {φ : Fn} {p : Pos} {e : Expr} {es : List Expr} {ca : AC} (G : Callee X.prog X.w X.K X.mg X.base T x n k φ) (hr : Room k' X.A) (ha : DA X T (e :: es) ca) (hk : k ≤ k' := by decide) (hg : Gl X x := by rfl)
    (hdb : (x == ("__debug__" : Str)) = false := by decide) (he : starEach (e :: es) X.env = (false, eval e X.env) :: starEach es X.env := by rfl) (hpl : (backTo pos (starEach es X.env)).any (·.1) = false := by rfl) : DE X T (.Call (.Name x p) (e :: es) [] pos) (cFn n φ ca) := by
  obtain ⟨f, fd, ps, FO, gm, kp, bd⟩ := G.ex
  refine ⟨fun {ρ μ σ H F as} m en {Q Wx} tk pp => ?_⟩
  have va := ha.run m en tk (a_bind (P := PostE X.K X.mg T σ F as Q Wx) (Q := fun vs H1 => spOf T X.K X.mg n φ vs H1 Q (fun cls d H' => Wx cls d σ H')) (fun _ _ p => p) (fun p => p) pp fun rs μ1 p1 vs H1 F1 as1 e1 m1 r1 => by
    by_cases hn : rs.length = n
    · rw [if_pos hn] at p1; exact call_sp m1 r1 hn (p1.ext e1)
    · rw [if_neg hn] at p1; exact p1.elim)
  intro pins s I
  refine wpAny_Call_Name_kw (ld_glob I hg gm ?_ hdb)
  refine PySem.W.callWith_K (h₀ := X.base) I.ok.mod.kin kp (thn (va pos pins s I) ?_) he hpl
  rintro us s1 ⟨vs, H1, I1, r, q⟩
  exact ⟨I1.kIn, run_at FO (hr.mono hk) bd (fun e s' c => tk e s' (XE.of_call I1 (fun cls d H' h => h) c)) I1 r q⟩
theorem de_fn0 {x : Str} {k k' : Nat} {φ : Fn} {p : Pos} (G : Callee X.prog X.w X.K X.mg X.base T x 0 k φ) (hr : Room k' X.A) (hk : k ≤ k' := by decide) (hg : Gl X x := by rfl)
    (hdb : (x == ("__debug__" : Str)) = false := by decide) : DE X T (.Call (.Name x p) [] [] pos) (cFn 0 φ cNil) := by
  obtain ⟨f, fd, ps, FO, gm, kp, bd⟩ := G.ex
  refine ⟨fun {ρ μ σ H F as} m en {Q Wx} tk pp => ?_⟩
  intro pins s I
  refine wpAny_Call_Name_kw (ld_glob I hg gm ?_ hdb)
  exact PySem.W.callWith_K0 I.kIn kp (run_at FO (hr.mono hk) bd (fun e s' c => tk e s' (XE.of_call I (fun cls d H' h => h) c)) I .nil (call_sp m .nil rfl pp))
end

/-! ### statements -/
inductive Out where
  | nx (ρ : Vr) (μ : Mem)
  | rt (r : R) (μ : Mem)
  | bk (ρ : Vr) (μ : Mem)
  | ct (ρ : Vr) (μ : Mem)
  | ex (x : Ex) (ρ : Vr) (μ : Mem)
  | no
abbrev SC := Vr → Mem → Out
def PostS (K : PySem.W.Frag) (mg : Str → Option Value) (T : Tb) (F : Hp) (as : List Addr) (D : Ends) (Wx : WX) : Out → Prop
  | .nx ρ μ => ∀ (σ' : L2.St) (H' F' : Hp) (as' : List Addr), Ext F as F' as' → Mm K T μ H' F' as' → EnvR K ρ σ' F' as' → D.nx σ' H'
  | .bk ρ μ => ∀ (σ' : L2.St) (H' F' : Hp) (as' : List Addr), Ext F as F' as' → Mm K T μ H' F' as' → EnvR K ρ σ' F' as' → D.bk σ' H'
  | .ct ρ μ => ∀ (σ' : L2.St) (H' F' : Hp) (as' : List Addr), Ext F as F' as' → Mm K T μ H' F' as' → EnvR K ρ σ' F' as' → D.ct σ' H'
  | .rt r μ => ∀ (v : V) (H' F' : Hp) (as' : List Addr), Ext F as F' as' → Mm K T μ H' F' as' → RelR K F' as' H' r v → D.rt v H'
  | .ex x ρ μ => ∀ (cls : Value) (d : Option Addr) (σ' : L2.St) (H' F' : Hp) (as' : List Addr), Ext F as F' as' → Mm K T μ H' F' as' → EnvR K ρ σ' F' as' → XRel K mg F' x cls d H' → Wx cls d σ' H'
  | .no => False
theorem PostS.ext {K : PySem.W.Frag} {mg : Str → Option Value} {T : Tb} {F F1 : Hp} {as as1 : List Addr} {D : Ends} {Wx : WX} {o : Out} (p : PostS K mg T F as D Wx o) (e : Ext F as F1 as1) : PostS K mg T F1 as1 D Wx o := by
  cases o with
  | nx ρ μ => exact fun σ' H' F' as' e' => p σ' H' F' as' (e.trans e')
  | bk ρ μ => exact fun σ' H' F' as' e' => p σ' H' F' as' (e.trans e')
  | ct ρ μ => exact fun σ' H' F' as' e' => p σ' H' F' as' (e.trans e')
  | rt r μ => exact fun v H' F' as' e' => p v H' F' as' (e.trans e')
  | ex x ρ μ => exact fun cls d σ' H' F' as' e' => p cls d σ' H' F' as' (e.trans e')
  | no => exact p
structure DS (X : Cx) (T : Tb) (st : Stmt) (c : SC) : Prop where
  run : ∀ {ρ : Vr} {μ : Mem} {σ : L2.St} {H F : Hp} {as : List Addr}, Mm X.K T μ H F as → EnvR X.K ρ σ F as → ∀ {D : Ends} {Wx : WX}, Takes X Wx → PostS X.K X.mg T F as D Wx (c ρ μ) → VS X st σ H D
structure DB (X : Cx) (T : Tb) (st : List Stmt) (c : SC) : Prop where
  run : ∀ {ρ : Vr} {μ : Mem} {σ : L2.St} {H F : Hp} {as : List Addr}, Mm X.K T μ H F as → EnvR X.K ρ σ F as → ∀ {D : Ends} {Wx : WX}, Takes X Wx → PostS X.K X.mg T F as D Wx (c ρ μ) → VB X st σ H D
/-- an expression's end, then the rest -/
def Rs.thenS {α : Type} (r : Rs α) (ρ : Vr) (f : α → Mem → Out) : Out := match r with
  | .ok a μ => f a μ
  | .ex x μ => .ex x ρ μ
  | .no => .no
section
variable {X : Cx} {T : Tb} {σ : L2.St} {H F : Hp} {as : List Addr} {ρ : Vr} {μ : Mem} {pos : Pos}
theorem postx_of {K : PySem.W.Frag} {mg : Str → Option Value} {D : Ends} {Wx : WX} {x : Ex} {μ' : Mem} (en : EnvR K ρ σ F as) (p : PostS K mg T F as D Wx (.ex x ρ μ')) : PostX K mg T σ F as Wx x μ' :=
  fun cls d H' F' as' e m r => p cls d σ H' F' as' e m (en.mono e) r
theorem e_then {K : PySem.W.Frag} {mg : Str → Option Value} {f : R → Mem → Out} {r : Rs R} {Q : VK} {D : Ends} {Wx : WX} (en : EnvR K ρ σ F as) (p : PostS K mg T F as D Wx (r.thenS ρ f))
    (k : ∀ a μ', PostS K mg T F as D Wx (f a μ') → ∀ (v : V) (H' F' : Hp) (as' : List Addr), Ext F as F' as' → Mm K T μ' H' F' as' → RelR K F' as' H' a v → Q v H') : PostE K mg T σ F as Q Wx r := by
  cases r with
  | ok a μ' => exact k a μ' p
  | ex x μ' => exact postx_of en p
  | no => exact p
theorem w_then {K : PySem.W.Frag} {mg : Str → Option Value} {f : R → Mem → Out} {r : Rs R} {Q : VK} {D : Ends} {Wx : WX} (en : EnvR K ρ σ F as) (p : PostS K mg T F as D Wx (r.thenS ρ f))
    (k : ∀ a μ', PostS K mg T F as D Wx (f a μ') → ∀ (v : V) (H' F' : Hp) (as' : List Addr), Ext F as F' as' → Mm K T μ' H' F' as' → RelW K F' as' a v → Q v H') : PostW K mg T σ F as Q Wx r := by
  cases r with
  | ok a μ' => exact k a μ' p
  | ex x μ' => exact postx_of en p
  | no => exact p
theorem t_then {K : PySem.W.Frag} {mg : Str → Option Value} {f : Bool → Mem → Out} {r : Rs Bool} {Q : Bool → Hp → Prop} {D : Ends} {Wx : WX} (en : EnvR K ρ σ F as) (p : PostS K mg T F as D Wx (r.thenS ρ f))
    (k : ∀ a μ', PostS K mg T F as D Wx (f a μ') → ∀ (H' F' : Hp) (as' : List Addr), Ext F as F' as' → Mm K T μ' H' F' as' → Q a H') : PostT K mg T σ F as Q Wx r := by
  cases r with
  | ok a μ' => exact k a μ' p
  | ex x μ' => exact postx_of en p
  | no => exact p
theorem a_then {K : PySem.W.Frag} {mg : Str → Option Value} {f : List R → Mem → Out} {r : Rs (List R)} {Q : List V → Hp → Prop} {D : Ends} {Wx : WX} (en : EnvR K ρ σ F as) (p : PostS K mg T F as D Wx (r.thenS ρ f))
    (k : ∀ a μ', PostS K mg T F as D Wx (f a μ') → ∀ (vs : List V) (H' F' : Hp) (as' : List Addr), Ext F as F' as' → Mm K T μ' H' F' as' → RelWs K F' as' a vs → Q vs H') : PostA K mg T σ F as Q Wx r := by
  cases r with
  | ok a μ' => exact k a μ' p
  | ex x μ' => exact postx_of en p
  | no => exact p
/-! blocks -/
def sNil : SC := fun ρ μ => .nx ρ μ
def sCons (a b : SC) : SC := fun ρ μ => match a ρ μ with
  | .nx ρ' μ' => b ρ' μ'
  | o => o
theorem db_nil : DB X T [] sNil := ⟨fun {ρ μ σ H F as} m en {D Wx} tk p => vb_of pss_nil (p σ H F as (Ext.refl _ _) m en)⟩
theorem db_one {st : Stmt} {c : SC} (h : DS X T st c) : DB X T [st] c := ⟨fun {ρ μ σ H F as} m en {D Wx} tk p => vb_of (pss_one ps_self) (h.run m en tk p)⟩
theorem db_cons {st : Stmt} {rest : List Stmt} {c d : SC} (h : DS X T st c) (hs : DB X T rest d) : DB X T (st :: rest) (sCons c d) := by
  refine ⟨fun {ρ μ σ H F as} m en {D Wx} tk p => vb_of (pss_cons ps_self pss_self) (h.run m en tk ?_)⟩
  unfold sCons at p
  cases hc : c ρ μ with
  | nx ρ' μ' => rw [hc] at p; exact fun σ' H' F' as' e m' en' => hs.run m' en' tk (p.ext e)
  | rt r μ' => rw [hc] at p; exact p
  | bk ρ' μ' => rw [hc] at p; exact p
  | ct ρ' μ' => rw [hc] at p; exact p
  | ex x ρ' μ' => rw [hc] at p; exact p
  | no => rw [hc] at p; exact p
def sRet (c : EC) : SC := fun ρ μ => (c ρ μ).thenS ρ fun r μ1 => .rt r μ1
theorem ds_ret {e : Expr} {c : EC} (h : DE X T e c) : DS X T (.Return (some e) pos) (sRet c) :=
  ⟨fun {ρ μ σ H F as} m en {D Wx} tk p => vs_of (ps_ret pe_self) (h.run m en tk (e_then en p fun a μ' p' v H' F' as' e m' r => p' v H' F' as' e m' r))⟩
def sRetN : SC := fun _ μ => .rt (.d .none) μ
theorem ds_retN : DS X T (.Return none pos) sRetN := ⟨fun {ρ μ σ H F as} m en {D Wx} tk p => vs_of ps_retN (p .non H F as (Ext.refl _ _) m .non)⟩
theorem ds_pass : DS X T (.Pass pos) sNil := ⟨fun {ρ μ σ H F as} m en {D Wx} tk p => vs_of ps_pass (p σ H F as (Ext.refl _ _) m en)⟩
def sBrk : SC := fun ρ μ => .bk ρ μ
def sCnt : SC := fun ρ μ => .ct ρ μ
theorem ds_break : DS X T (.Break pos) sBrk := ⟨fun {ρ μ σ H F as} m en {D Wx} tk p => vs_of ps_break (p σ H F as (Ext.refl _ _) m en)⟩
theorem ds_continue : DS X T (.Continue pos) sCnt := ⟨fun {ρ μ σ H F as} m en {D Wx} tk p => vs_of ps_continue (p σ H F as (Ext.refl _ _) m en)⟩
def sIf (t : TC) (a b : SC) : SC := fun ρ μ => (t ρ μ).thenS ρ fun k μ1 => if k = true then a ρ μ1 else b ρ μ1
theorem ds_if {t : Expr} {a b : List Stmt} {ct : TC} {ca cb : SC} (ht : DT X T t ct) (ha : DB X T a ca) (hb : DB X T b cb) : DS X T (.If t a b pos) (sIf ct ca cb) := by
  refine ⟨fun {ρ μ σ H F as} m en {D Wx} tk p => vs_of (ps_if pt_self pss_self pss_self) (ht.run m en tk (t_then en p fun k μ1 p1 H1 F1 as1 e1 m1 => ?_))⟩
  cases k with
  | true => exact ha.run m1 (en.mono e1) tk (p1.ext e1)
  | false => exact hb.run m1 (en.mono e1) tk (p1.ext e1)
def sExpr (c : EC) : SC := fun ρ μ => (c ρ μ).thenS ρ fun _ μ1 => .nx ρ μ1
theorem ds_expr {e : Expr} {c : EC} (h : DE X T e c) (hs : swapsWith e none pos.line X.env = pure false := by rfl) : DS X T (.Expr e pos) (sExpr c) :=
  ⟨fun {ρ μ σ H F as} m en {D Wx} tk p => vs_of (ps_expr pe_self hs) (h.run m en tk (e_then en p fun a μ' p' v H' F' as' e m' r => p' σ H' F' as' e m' (en.mono e)))⟩
theorem EnvR.set {K : PySem.W.Frag} {r : R} {v : V} (en : EnvR K ρ σ F as) (h : RelW K F as r v) (i : Nat) : EnvR K (ρ.set i (some r)) (σ.set i (some v)) F as := by
  refine ⟨by rw [List.length_set, List.length_set]; exact en.1, fun j r' q => ?_⟩
  by_cases hj : i = j
  · subst hj
    by_cases hl : i < ρ.length
    · rw [List.getElem?_set_self hl] at q
      cases q
      exact ⟨v, List.getElem?_set_self (by rw [← en.1]; exact hl), h⟩
    · rw [List.getElem?_eq_none (by rw [List.length_set]; omega)] at q; cases q
  · rw [List.getElem?_set_ne hj] at q
    obtain ⟨v', h1, h2⟩ := en.2 j r' q
    exact ⟨v', by rw [List.getElem?_set_ne hj]; exact h1, h2⟩
/-! assignment to a name: what is new becomes a cell (sSetM) or data (sSet) -/
def adopt : R → Mem → Rs R
  | .fl ds, μ => .ok (.c μ.length) (μ ++ [.lst ds])
  | .fk kvs, μ => .ok (.c μ.length) (μ ++ [.dk kvs])
  | .d x, μ => .ok (.d x) μ
  | .c n, μ => .ok (.c n) μ
  | .o b, μ => .ok (.o b) μ
theorem adopt_ok {K : PySem.W.Frag} {r r' : R} {μ' : Mem} {v : V} (m : Mm K T μ H F as) (h : RelR K F as H r v) (e : adopt r μ = .ok r' μ') : ∃ F' as', Ext F as F' as' ∧ Mm K T μ' H F' as' ∧ RelW K F' as' r' v := by
  cases r with
  | d x => cases e; exact ⟨F, as, Ext.refl _ _, m, h⟩
  | c n => cases e; exact ⟨F, as, Ext.refl _ _, m, h⟩
  | fl ds =>
    cases e
    obtain ⟨a, vs, rfl, h1, h2, h3, h4⟩ := h
    refine ⟨F, as ++ [a], ⟨Same.refl _, [a], rfl⟩, m.adopt h1 ⟨h2, vs, h3, h4⟩, a, ?_, rfl⟩
    rw [m.len, List.getElem?_append_right (Nat.le_refl _)]
    simp
  | fk kvs =>
    cases e
    obtain ⟨a, kv, rfl, h1, h2, h3, h4, h5⟩ := h
    refine ⟨F, as ++ [a], ⟨Same.refl _, [a], rfl⟩, m.adopt h1 ⟨h2, kv, h3, h4, h5⟩, a, ?_, rfl⟩
    rw [m.len, List.getElem?_append_right (Nat.le_refl _)]
    simp
  | o b => cases e; exact ⟨F, as, Ext.refl _ _, m, h⟩
def cA (c : EC) : EC := fun ρ μ => (c ρ μ).bind adopt
theorem DE.adopt {e : Expr} {c : EC} (h : DE X T e c) : DW X T e (cA c) := by
  refine ⟨fun {ρ μ σ H F as} m en {Q Wx} tk p => h.run m en tk (e_bind (P := PostW X.K X.mg T σ F as Q Wx) (fun _ _ p => p) (fun p => p) p fun a μ' p' v H' F' as' ex m' r => ?_)⟩
  cases hh : Em.adopt a μ' with
  | ok r' μ2 =>
    rw [hh] at p'
    obtain ⟨F2, as2, e2, m2, r2⟩ := adopt_ok m' r hh
    exact p' v H' F2 as2 (ex.trans e2) m2 r2
  | ex x μ2 => cases a <;> cases hh
  | no => cases a <;> cases hh
def sSet (i : Nat) (c : EC) : SC := fun ρ μ => (c ρ μ).thenS ρ fun r μ1 => .nx (ρ.set i (some r)) μ1
theorem ds_set (i : Nat) {x : Str} {e : Expr} {c : EC} {pos' : Pos} (hN : X.N.Nodup) (h : DW X T e c) (hi : X.N[i]? = some x := by rfl) (hx : Loc X.env.scope x := by first | exact Or.inl rfl | exact Or.inr rfl) (hs : swapsWith e (some (.Name x pos')) pos.line X.env = pure false := by rfl)
    (hf : X.fn x = true ∨ X.env.scope.names.lookup x = some .local := by first | exact .inl rfl | exact .inr rfl | assumption) : DS X T (.Assign [.Name x pos'] e pos) (sSet i c) :=
  ⟨fun {ρ μ σ H F as} m en {D Wx} tk p => vs_of (ps_set hN hi hx pe_self hs hf) (h.run m en tk (w_then en p fun a μ' p' v H' F' as' e m' r => p' _ H' F' as' e m' ((en.mono e).set r i)))⟩
end
end Em
set_option maxRecDepth 100000
namespace Em
open PySem PySem.Spec PyProof.Rows L2

/-! ### a def's body -/
def expo (k : Nat) : Out → Rs R
  | .nx _ μ => .ok (.d .none) (μ.take k)
  | .rt r μ => match r with
    | .c n => if n < k then .ok (.c n) (μ.take k) else match μ[n]? with
      | some (.lst ds) => .ok (.fl ds) (μ.take k)
      | some (.frz ds) => .ok (.d (.list ds)) (μ.take k)
      | some (.dk kvs) => .ok (.fk kvs) (μ.take k)
      | none => .no
    | r => .ok r (μ.take k)
  | .ex x _ μ => .ex x (μ.take k)
  | _ => .no
def fnOf (N : Nat) (body : SC) : Fn := fun ws μ => expo μ.length (body (ws.map some ++ List.replicate (N - ws.length) none) μ)
theorem Mm.cut {K : PySem.W.Frag} {T : Tb} {μ' : Mem} {H F : Hp} {as t : List Addr} (m : Mm K T μ' H F (as ++ t)) {k : Nat} (hk : k = as.length) (b : Ext T.F0 T.as0 F as) : Mm K T (μ'.take k) H F as := by
  have l := m.len
  rw [List.length_append] at l
  refine ⟨m.same, m.ntb, (List.nodup_append.mp m.nd).1, by rw [List.length_take]; omega, fun n c a h1 h2 => ?_, m.tabs, b⟩
  have hn : n < k := by rw [hk]; exact (List.getElem?_eq_some_iff.mp h2).1
  rw [List.getElem?_take_of_lt hn] at h1
  exact m.cell n c a h1 (by rw [List.getElem?_append_left (by omega)]; exact h2)
theorem cut_R {K : PySem.W.Frag} {F H : Hp} {as t : List Addr} {r : R} {v : V} (h : RelR K F (as ++ t) H r v) (hr : ∀ n, r = .c n → n < as.length) : RelR K F as H r v := by
  cases r with
  | d x => exact h
  | c n =>
    obtain ⟨a, h1, h2⟩ := h
    rw [List.getElem?_append_left (hr n rfl)] at h1
    exact ⟨a, h1, h2⟩
  | fl ds => obtain ⟨a, vs, h1, h2, h3⟩ := h; exact ⟨a, vs, h1, fun z => h2 (List.mem_append_left _ z), h3⟩
  | o b => exact h
  | fk kvs => obtain ⟨a, vs, h1, h2, h3⟩ := h; exact ⟨a, vs, h1, fun z => h2 (List.mem_append_left _ z), h3⟩
theorem posts_body {K : PySem.W.Frag} {mg : Str → Option Value} {T : Tb} {μ : Mem} {F H : Hp} {as : List Addr} {o : Out} {Q : VK} {E : XK} (ml : μ.length = as.length) (mb : Ext T.F0 T.as0 F as)
    (p : match expo μ.length o with
      | .ok r μ' => ∀ (v : V) (H' F' : Hp), Same F F' → Mm K T μ' H' F' as → RelR K F' as H' r v → Q v H'
      | .ex x μ' => ∀ (cls : Value) (d : Option Addr) (H' F' : Hp), Same F F' → Mm K T μ' H' F' as → XRel K mg F' x cls d H' → E cls d H'
      | .no => False) : PostS K mg T F as { nx := fun _ H' => Q .non H', rt := Q } (fun cls d _ H' => E cls d H') o := by
  cases o with
  | nx ρ μ' =>
    intro σ' H' F' as' e m en
    obtain ⟨s, t, rfl⟩ := e
    exact p .non H' F' s (m.cut ml (mb.trans (Ext.eqv s))) .non
  | bk ρ μ' => exact p.elim
  | ct ρ μ' => exact p.elim
  | no => exact p
  | ex x ρ μ' =>
    intro cls d σ' H' F' as' e m en r
    obtain ⟨s, t, rfl⟩ := e
    exact p cls d H' F' s (m.cut ml (mb.trans (Ext.eqv s))) r
  | rt r μ' =>
    intro v H' F' as' e m rel
    obtain ⟨s, t, rfl⟩ := e
    cases r with
    | d x => exact p v H' F' s (m.cut ml (mb.trans (Ext.eqv s))) rel
    | fl ds => exact p v H' F' s (m.cut ml (mb.trans (Ext.eqv s))) (cut_R rel (fun n z => by cases z))
    | fk ds => exact p v H' F' s (m.cut ml (mb.trans (Ext.eqv s))) (cut_R rel (fun n z => by cases z))
    | o b => exact p v H' F' s (m.cut ml (mb.trans (Ext.eqv s))) (cut_R rel (fun n z => by cases z))
    | c n =>
      simp only [expo] at p
      by_cases hn : n < μ.length
      · rw [if_pos hn] at p
        exact p v H' F' s (m.cut ml (mb.trans (Ext.eqv s))) (cut_R rel (fun k z => by cases z; rw [← ml]; exact hn))
      · rw [if_neg hn] at p
        obtain ⟨a, ha, rfl⟩ := rel
        have hna : a ∉ as := by
          intro hm
          obtain ⟨j, hj, e⟩ := List.getElem_of_mem hm
          have : (as ++ t)[j]? = some a := by rw [List.getElem?_append_left hj, List.getElem?_eq_getElem hj, e]
          have := nodup_at m.nd this ha
          omega
        cases hc : μ'[n]? with
        | none => rw [hc] at p; exact p.elim
        | some c =>
          have q := m.cell n c a hc ha
          cases c with
          | lst ds =>
            rw [hc] at p
            obtain ⟨h1, vs, h2, h3⟩ := q
            exact p _ H' F' s (m.cut ml (mb.trans (Ext.eqv s))) ⟨a, vs, rfl, hna, h1, h2, h3⟩
          | frz ds =>
            rw [hc] at p
            obtain ⟨vs, h2, h3⟩ := q
            exact p _ H' F' s (m.cut ml (mb.trans (Ext.eqv s))) (.lst (.inl h2) h3)
          | dk kvs =>
            rw [hc] at p
            obtain ⟨h1, kv, h2, h3, h4⟩ := q
            exact p _ H' F' s (m.cut ml (mb.trans (Ext.eqv s))) ⟨a, kv, rfl, hna, h1, h2, h3, h4⟩
theorem env_start {K : PySem.W.Frag} {F : Hp} {as : List Addr} {ws : List R} {vs : List V} {N : List Str} (r : RelWs K F as ws vs) : EnvR K (ws.map some ++ List.replicate (N.length - ws.length) none) (L2.start N vs) F as := by
  have l := r.length
  refine ⟨by unfold L2.start; rw [List.length_append, List.length_append, List.length_map, List.length_map, List.length_replicate, List.length_replicate, l], fun i w q => ?_⟩
  unfold L2.start
  have hi : i < ws.length := by
    by_cases hi : i < ws.length
    · exact hi
    · rw [List.getElem?_append_right (by rw [List.length_map]; omega)] at q
      have := List.mem_of_getElem? q
      exact absurd (List.eq_of_mem_replicate this) (by simp)
  rw [List.getElem?_append_left (by rw [List.length_map]; exact hi), List.getElem?_map] at q
  rw [List.getElem?_append_left (by rw [List.length_map, l]; exact hi), List.getElem?_map]
  clear l hi
  induction r generalizing i with
  | nil => simp at q
  | cons h t ih =>
    cases i with
    | zero =>
      simp at q
      subst q
      exact ⟨_, rfl, h⟩
    | succ i =>
      obtain ⟨v, h1, h2⟩ := ih i (by simpa using q)
      exact ⟨v, by simpa using h1, h2⟩
/-- THE RULE for a def -/
theorem Callee.mk' {P : Program} {w : World} {K : PySem.W.Frag} {mg : Str → Option Value} {base : Heap} {T : Tb} {x : Str} {st : Stmt} {f : Addr} {fd : FuncData} {N ps : List Str} {k n : Nat} {body : SC} (G : Fun K x x st f fd) (S : FnScope N ps (defScope st)) (hn : ps.length = n) (hm : mg x = some (.ref f)) (hb : Binds K fd ps [])
    (h : ∀ (cdv : Value) (A : Around) (outer : List Env) (s : Shared) (H : Hp) (E : XK), Room k (A.deeper (envOfC x (defScope st) s.heap.objs.size f cdv)) → DB (cxOf (L2.CX P w) P w K mg base N x (defScope st) f cdv A outer s H E) T (defBody st) body) :
    Callee P w K mg base T x n (k + 1) (fnOf N.length body) := by
  subst hn
  refine ⟨f, fd, ps, G.okX S (fun vs H Q E q => q.1) (fun cdv A outer s H vs Q E hr hsp => ⟨_, pss_self, ?_⟩), hm, G.kp, hb⟩
  obtain ⟨hl, ws, μ, F, as, m, rel, p⟩ := hsp
  exact (h cdv A outer s H E hr).run m (env_start rel) (takes_of rfl rfl rfl rfl) (posts_body (H := H) m.len m.base p)
theorem Callee.imp {P : Program} {w : World} {K : PySem.W.Frag} {mg : Str → Option Value} {base : Heap} {T : Tb} {x : Str} {k n : Nat} {φ ψ : Fn} (G : Callee P w K mg base T x n k φ) (e : φ = ψ) : Callee P w K mg base T x n k ψ := e ▸ G

section
variable {X : Cx} {T : Tb} {pos : Pos}
/-! ### targets -/
abbrev GC := D → Vr → Option Vr
def VG (X : Cx) (tg : Expr) (v : V) (σ : L2.St) (H : Hp) (Q : L2.St → Hp → Prop) : Prop := ∀ (pins : List (Addr × Obj)) (s : Shared) (u : Value), Inv X pins σ H s → RelV v u →
  wpAny (model X.prog X.w) X.A (assign tg X.env u) (fun _ s' => ∃ σ' H', Inv X pins σ' H' s' ∧ Q σ' H') X.xe s
def VGs (X : Cx) (ts : List Expr) (vs : List V) (σ : L2.St) (H : Hp) (Q : L2.St → Hp → Prop) : Prop := ∀ (pins : List (Addr × Obj)) (s : Shared) (us : List Value), Inv X pins σ H s → Vals vs us →
  wpAny (model X.prog X.w) X.A (assignInOrder ((assignEach ts X.env).map (·.2)) us) (fun _ s' => ∃ σ' H', Inv X pins σ' H' s' ∧ Q σ' H') X.xe s
theorem pg_self {tg : Expr} : PG X tg (fun v σ H Q => VG X tg v σ H Q) := ⟨fun pins s _ _ v u _ I r h => h pins s u I r⟩
theorem pgs_self {tg : List Expr} : PGs X tg (fun v σ H Q => VGs X tg v σ H Q) := ⟨fun pins s _ _ v u _ I r h => h pins s u I r⟩
theorem vg_of {tg : Expr} {t : TG} {v : V} {σ : L2.St} {H : Hp} {Q : L2.St → Hp → Prop} (h : PG X tg t) (q : t v σ H Q) : VG X tg v σ H Q := fun pins s u I r => h.run pins s σ H v u Q I r q
theorem vgs_of {tg : List Expr} {t : TGs} {v : List V} {σ : L2.St} {H : Hp} {Q : L2.St → Hp → Prop} (h : PGs X tg t) (q : t v σ H Q) : VGs X tg v σ H Q := fun pins s u I r => h.run pins s σ H v u Q I r q
structure DG (X : Cx) (T : Tb) (tg : Expr) (sl : List Nat) (g : GC) : Prop where
  run : ∀ {d : D} {v : V} {ρ ρ' : Vr} {μ : Mem} {σ : L2.St} {H F : Hp} {as : List Addr}, Mm X.K T μ H F as → EnvR X.K ρ σ F as → Dq X.K F v d → g d ρ = some ρ' →
    ∀ {Q : L2.St → Hp → Prop}, (∀ σ' : L2.St, EnvR X.K ρ' σ' F as → σ'.length = σ.length → (∀ j, j ∉ sl → σ'[j]? = σ[j]?) → Q σ' H) → VG X tg v σ H Q
structure DGs (X : Cx) (T : Tb) (tg : List Expr) (sl : List Nat) (g : List D → Vr → Option Vr) : Prop where
  run : ∀ {ds : List D} {vs : List V} {ρ ρ' : Vr} {μ : Mem} {σ : L2.St} {H F : Hp} {as : List Addr}, Mm X.K T μ H F as → EnvR X.K ρ σ F as → DqAll X.K F vs ds → g ds ρ = some ρ' →
    ∀ {Q : L2.St → Hp → Prop}, (∀ σ' : L2.St, EnvR X.K ρ' σ' F as → σ'.length = σ.length → (∀ j, j ∉ sl → σ'[j]? = σ[j]?) → Q σ' H) → VGs X tg vs σ H Q
def gN (i : Nat) : GC := fun d ρ => some (ρ.set i (some (.d d)))
def gsN : List D → Vr → Option Vr := fun ds ρ => match ds with
  | [] => some ρ
  | _ => none
def gsC (g : GC) (gs : List D → Vr → Option Vr) : List D → Vr → Option Vr := fun ds ρ => match ds with
  | d :: ds => match g d ρ with
    | some ρ' => gs ds ρ'
    | none => none
  | [] => none
def gT (gs : List D → Vr → Option Vr) : GC := fun d ρ => match d with
  | .tuple ds => gs ds ρ
  | _ => none
theorem dg_name (i : Nat) {x : Str} (hN : X.N.Nodup) (hi : X.N[i]? = some x := by rfl) (hx : Loc X.env.scope x := by first | exact Or.inl rfl | exact Or.inr rfl) (hf : X.fn x = true ∨ X.env.scope.names.lookup x = some .local := by first | exact .inl rfl | exact .inr rfl | assumption) : DG X T (.Name x pos) [i] (gN i) := by
  refine ⟨fun {d v ρ ρ' μ σ H F as} m en hd e {Q} q => vg_of (pg_name hN hi hx hf) ?_⟩
  cases e
  refine q _ (en.set (r := .d d) hd i) (by rw [List.length_set]) (fun j hj => ?_)
  rw [List.getElem?_set_ne (by intro z; exact hj (by rw [z]; simp))]
theorem dgs_nil : DGs X T [] [] gsN := by
  refine ⟨fun {ds vs ρ ρ' μ σ H F as} m en hd e {Q} q => vgs_of pgs_nil ?_⟩
  cases hd with
  | nil => cases e; exact ⟨rfl, q _ en rfl fun _ _ => rfl⟩
  | cons h t => cases e
theorem dgs_cons {e : Expr} {es : List Expr} {s1 s2 : List Nat} {g : GC} {gs : List D → Vr → Option Vr} (h1 : DG X T e s1 g) (h2 : DGs X T es s2 gs) (hs : (assignEach (e :: es) X.env).map (·.2) = assign e X.env :: (assignEach es X.env).map (·.2) := by rfl) : DGs X T (e :: es) (s1 ++ s2) (gsC g gs) := by
  refine ⟨fun {ds vs ρ ρ' μ σ H F as} m en hd e {Q} q => vgs_of (pgs_cons pg_self pgs_self hs) ?_⟩
  cases hd with
  | nil => cases e
  | cons h t' =>
    unfold gsC at e
    rename_i d ds' v vs'
    simp only at e
    split at e
    · rename_i ρ1 he1
      refine ⟨_, _, rfl, h1.run m en h he1 fun σ' en' l' k' => h2.run m en' t' e fun σ2 en2 l2 k2 => q σ2 en2 (l2.trans l') fun j hj => ?_⟩
      rw [k2 j (fun z => hj (List.mem_append_right _ z)), k' j (fun z => hj (List.mem_append_left _ z))]
    · cases e
theorem dg_tup {es : List Expr} {k : Nat} {sl : List Nat} {gs : List D → Vr → Option Vr} (hs : DGs X T es sl gs) (hc : X.calm = true := by rfl) (hst : (assignEach es X.env).findIdx? (·.1) = none := by rfl) (n : Nat) (hn : (assignEach es X.env).length = n := by rfl) (hg : ∀ ds ρ ρ', gs ds ρ = some ρ' → ds.length = n) : DG X T (.Tuple es k pos) sl (gT gs) := by
  refine ⟨fun {d v ρ ρ' μ σ H F as} m en hd e {Q} q => vg_of (pg_tup hc pgs_self hn hst) ?_⟩
  cases hd with
  | tup h1 h2 => exact ⟨_, _, rfl, same_tup m.same h1, by rw [h2.length]; exact hg _ _ _ e, hs.run m en h2 e q⟩
  | _ => cases e
theorem gsN_len : ∀ ds ρ ρ', gsN ds ρ = some ρ' → ds.length = 0 := fun ds ρ ρ' e => by
  cases ds with
  | nil => rfl
  | cons d ds => cases e
theorem gsC_len {g : GC} {gs : List D → Vr → Option Vr} {n : Nat} (h : ∀ ds ρ ρ', gs ds ρ = some ρ' → ds.length = n) : ∀ ds ρ ρ', gsC g gs ds ρ = some ρ' → ds.length = n + 1 := fun ds ρ ρ' e => by
  cases ds with
  | nil => cases e
  | cons d ds =>
    unfold gsC at e
    simp only at e
    split at e
    · rw [List.length_cons, h _ _ _ e]
    · cases e

/-! ### what is walked -/
inductive Itm where
  | seq (r : R)
  | rng (lo c : Int) (n : Nat)
  | enm (r : R)
  | zip (a b : R)
  | txt (s : Str)
def seeL (r : R) (μ : Mem) : Option (List D) := match see r μ with
  | some (.list ds) => some ds
  | some (.tuple ds) => some ds
  | _ => none
def itLen : Itm → Mem → Option Nat
  | .seq r, μ => (seeL r μ).map (·.length)
  | .rng _ _ n, _ => some n
  | .enm r, μ => (seeL r μ).map (·.length)
  | .zip a b, μ => match seeL a μ, seeL b μ with
    | some xs, some ys => some (min xs.length ys.length)
    | _, _ => none
  | .txt s, _ => some s.cps.size
def itAt : Itm → Nat → Mem → Option D
  | .seq r, i, μ => match seeL r μ with
    | some ds => ds[i]?
    | none => none
  | .rng lo c n, i, _ => if i < n then some (.int (lo + (i : Nat) * c)) else none
  | .enm r, i, μ => match seeL r μ with
    | some ds => (ds[i]?).map fun d => .tuple [.int (i : Nat), d]
    | none => none
  | .zip a b, i, μ => match seeL a μ, seeL b μ with
    | some xs, some ys => match xs[i]?, ys[i]? with
      | some x, some y => some (.tuple [x, y])
      | _, _ => none
    | _, _ => none
  | .txt s, i, _ => (s.cps[i]?).map fun c => .str ⟨#[c]⟩
def VI (X : Cx) (tg iter : Expr) (σ : L2.St) (H : Hp) (Rq : It → Hp → Prop) : Prop := ∀ (pins : List (Addr × Obj)) (s : Shared), Inv X pins σ H s →
  wpAny (model X.prog X.w) X.A (eval iter X.env) (fun v s1 => wpAny (model X.prog X.w) X.A (pyIter v) (PIE X pins σ tg Rq) X.xe s1) X.xe s
theorem pi_self {tg iter : Expr} : PI X tg iter (fun σ H Rq => VI X tg iter σ H Rq) := ⟨fun pins s _ _ _ I h => h pins s I⟩
theorem vi_of {tg iter : Expr} {t : TI} {σ : L2.St} {H : Hp} {Rq : It → Hp → Prop} (h : PI X tg iter t) (q : t σ H Rq) : VI X tg iter σ H Rq := fun pins s I => h.run pins s σ H Rq I q
def JRel (K : PySem.W.Frag) (T : Tb) (F : Hp) (as : List Addr) (j : Itm) (J : It) : Prop := ∀ (F1 : Hp) (as1 : List Addr) (μ1 : Mem) (H1 : Hp), Ext F as F1 as1 → Mm K T μ1 H1 F1 as1 → ∀ i, (itLen j μ1 = some i → J.stop i H1) ∧
  (∀ d, itAt j i μ1 = some d → J.go i H1 ∧ ∀ x H2, J.yld i H1 x H2 → ∃ F2, Ext F1 as1 F2 as1 ∧ Mm K T μ1 H2 F2 as1 ∧ Dq K F2 x d)
def PostI (K : PySem.W.Frag) (mg : Str → Option Value) (T : Tb) (σ : L2.St) (F : Hp) (as : List Addr) (Rq : It → Hp → Prop) (Wx : WX) : Rs Itm → Prop
  | .ok j μ' => ∀ (J : It) (H' F' : Hp) (as' : List Addr), Ext F as F' as' → Mm K T μ' H' F' as' → JRel K T F' as' j J → Rq J H'
  | .ex x μ' => PostX K mg T σ F as Wx x μ'
  | .no => False
structure DI (X : Cx) (T : Tb) (tg iter : Expr) (ci : Vr → Mem → Rs Itm) : Prop where
  run : ∀ {ρ : Vr} {μ : Mem} {σ : L2.St} {H F : Hp} {as : List Addr}, Mm X.K T μ H F as → EnvR X.K ρ σ F as → ∀ {Rq : It → Hp → Prop} {Wx : WX}, Takes X Wx → PostI X.K X.mg T σ F as Rq Wx (ci ρ μ) → VI X tg iter σ H Rq
/-! a list or a tuple -/
def iSeq (c : EC) : Vr → Mem → Rs Itm := fun ρ μ => (c ρ μ).bind fun r μ1 => .ok (.seq r) μ1
theorem seeL_cases {r : R} {μ : Mem} {ds : List D} (h : seeL r μ = some ds) : see r μ = some (.list ds) ∨ see r μ = some (.tuple ds) := by
  unfold seeL at h
  split at h
  · cases h; left; assumption
  · cases h; right; assumption
  · cases h
end
end Em
set_option maxRecDepth 100000
namespace Em
open PySem PySem.Spec PyProof.Rows L2
section
variable {X : Cx} {T : Tb} {pos : Pos}
theorem dp_list_inj {K : PySem.W.Frag} {H : Hp} {a : Addr} {xs ys : List V} (h : H a = some (.lst xs)) (h' : H a = some (.lst ys)) : xs = ys := by rw [h] at h'; cases h'; rfl
/-- the walk of a list at a -/
theorem jrel_list {K : PySem.W.Frag} {F : Hp} {as : List Addr} {r : R} {a : Addr} (h : RelW K F as r (.ref a)) (hl : ∀ (μ1 : Mem) (ds : List D), see r μ1 ≠ some (.tuple ds)) : JRel K T F as (.seq r) (Itl K a) := by
  intro F1 as1 μ1 H1 e m i
  have h1 := h.mono e
  have key : ∀ ds, seeL r μ1 = some ds → ∃ vs, SqL K H1 a vs ∧ DqAll K F1 vs ds := fun ds hd => by
    rcases seeL_cases hd with z | z
    · obtain ⟨b, vs, eb, q1, q2⟩ := see_list m h1 z
      cases eb
      exact ⟨vs, .inl q1, q2⟩
    · exact absurd z (hl _ _)
  refine ⟨fun hi => ?_, fun d hd => ?_⟩
  · unfold itLen at hi
    cases hs : seeL r μ1 with
    | none => simp [hs] at hi
    | some ds =>
      simp [hs] at hi
      obtain ⟨vs, q1, q2⟩ := key ds hs
      exact ⟨vs, q1, by rw [q2.length]; omega⟩
  · unfold itAt at hd
    cases hs : seeL r μ1 with
    | none => simp [hs] at hd
    | some ds =>
      simp only [hs] at hd
      obtain ⟨vs, q1, q2⟩ := key ds hs
      obtain ⟨v, g1, g2⟩ := q2.get hd
      refine ⟨⟨vs, v, q1, g1⟩, fun x H2 y => ?_⟩
      obtain ⟨rfl, y2⟩ := y
      have : x = v := Option.some.inj ((y2 vs q1).symm.trans g1)
      subst this
      exact ⟨F1, Ext.refl _ _, m, g2⟩
theorem jrel_tup {K : PySem.W.Frag} {F : Hp} {as : List Addr} {ds : List D} {a : Addr} (h : RelW K F as (.d (.tuple ds)) (.ref a)) : JRel K T F as (.seq (.d (.tuple ds))) (Itt K a) := by
  intro F1 as1 μ1 H1 e m i
  have h1 := h.mono e
  obtain ⟨b, vs, eb, q1, _, q2⟩ := see_tup m h1 (rfl : see (.d (.tuple ds)) μ1 = some (.tuple ds))
  cases eb
  refine ⟨fun hi => ?_, fun d hd => ?_⟩
  · have : ds.length = i := by simpa [itLen, seeL, see] using hi
    exact ⟨vs, q1, by rw [q2.length]; omega⟩
  · have hd' : ds[i]? = some d := by simpa [itAt, seeL, see] using hd
    obtain ⟨v, g1, g2⟩ := q2.get hd'
    refine ⟨⟨vs, v, q1, g1⟩, fun x H2 y => ?_⟩
    obtain ⟨rfl, y2⟩ := y
    have : x = v := Option.some.inj ((y2 vs q1).symm.trans g1)
    subst this
    exact ⟨F1, Ext.refl _ _, m, g2⟩
theorem jrel_txt {K : PySem.W.Frag} {F : Hp} {as : List Addr} {z : Str} : JRel K T F as (.txt z) (Its z) := by
  intro F1 as1 μ1 H1 e m i
  refine ⟨fun hi => ?_, fun d hd => ?_⟩
  · have : z.cps.size = i := by simpa [itLen] using hi
    exact Nat.le_of_eq this
  · have hd' : (z.cps[i]?).map (fun c => PyData.str ⟨#[c]⟩) = some d := hd
    cases hc : z.cps[i]? with
    | none => rw [hc] at hd'; cases hd'
    | some c =>
      rw [hc] at hd'
      cases hd'
      obtain ⟨hlt, _⟩ := Array.getElem?_eq_some_iff.mp hc
      refine ⟨hlt, fun x H2 y => ?_⟩
      obtain ⟨rfl, c', hc', rfl⟩ := y
      rw [hc] at hc'
      cases hc'
      exact ⟨F1, Ext.refl _ _, m, .str _⟩
theorem jrel_rng {K : PySem.W.Frag} {F : Hp} {as : List Addr} {lo : Int} {n : Nat} : JRel K T F as (.rng lo 1 n) (Itr lo n) := by
  intro F1 as1 μ1 H1 e m i
  refine ⟨fun hi => ?_, fun d hd => ?_⟩
  · have : n = i := by simpa [itLen] using hi
    exact Nat.le_of_eq this
  · have hd' : (if i < n then some (PyData.int (lo + (i : Nat) * 1)) else none) = some d := hd
    by_cases hlt : i < n
    · rw [if_pos hlt] at hd'
      cases hd'
      refine ⟨hlt, fun x H2 y => ?_⟩
      obtain ⟨rfl, rfl⟩ := y
      rw [Int.mul_one]
      exact ⟨F1, Ext.refl _ _, m, .int _⟩
    · rw [if_neg hlt] at hd'; cases hd'
theorem PostI.ext {K : PySem.W.Frag} {mg : Str → Option Value} {σ : L2.St} {F F1 : Hp} {as as1 : List Addr} {Rq : It → Hp → Prop} {Wx : WX} {r : Rs Itm} (p : PostI K mg T σ F as Rq Wx r) (e : Ext F as F1 as1) : PostI K mg T σ F1 as1 Rq Wx r := by
  cases r with
  | ok r μ' => exact fun J H' F' as' e' => p J H' F' as' (e.trans e')
  | ex x μ' => exact PostX.ext p e
  | no => exact p
def itmOf (r : R) (μ : Mem) : Rs Itm := match r with
  | .d (.str z) => .ok (.txt z) μ
  | .d (.list ds) => .ok (.seq (.d (.list ds))) μ
  | .d (.tuple ds) => .ok (.seq (.d (.tuple ds))) μ
  | .c n => match μ[n]? with
    | some (.dk _) => .no
    | _ => .ok (.seq (.c n)) μ
  | _ => .no
def iAny (c : EC) : Vr → Mem → Rs Itm := fun ρ μ => (c ρ μ).bind itmOf
theorem see_c_tup {n : Nat} {μ : Mem} {ds : List D} : see (.c n) μ ≠ some (.tuple ds) := by
  unfold see
  simp only
  split <;> (intro z; cases z)
theorem wi_bind {K : PySem.W.Frag} {mg : Str → Option Value} {σ : L2.St} {F : Hp} {as : List Addr} {Rq : It → Hp → Prop} {f : R → Mem → Rs Itm} {r : Rs R} {Q : VK} {Wx : WX} (p : PostI K mg T σ F as Rq Wx (r.bind f))
    (k : ∀ a μ', PostI K mg T σ F as Rq Wx (f a μ') → ∀ (v : V) (H' F' : Hp) (as' : List Addr), Ext F as F' as' → Mm K T μ' H' F' as' → RelW K F' as' a v → Q v H') : PostW K mg T σ F as Q Wx r := by
  cases r with
  | ok a μ' => exact k a μ' p
  | ex x μ' => exact p
  | no => exact p
theorem ai_bind {K : PySem.W.Frag} {mg : Str → Option Value} {σ : L2.St} {F : Hp} {as : List Addr} {Rq : It → Hp → Prop} {f : List R → Mem → Rs Itm} {r : Rs (List R)} {Q : List V → Hp → Prop} {Wx : WX} (p : PostI K mg T σ F as Rq Wx (r.bind f))
    (k : ∀ a μ', PostI K mg T σ F as Rq Wx (f a μ') → ∀ (vs : List V) (H' F' : Hp) (as' : List Addr), Ext F as F' as' → Mm K T μ' H' F' as' → RelWs K F' as' a vs → Q vs H') : PostA K mg T σ F as Q Wx r := by
  cases r with
  | ok a μ' => exact k a μ' p
  | ex x μ' => exact p
  | no => exact p
/-- a value that can be walked, walked -/
theorem iter_any {tg : Expr} {r : R} {v : V} {u : Value} {μ : Mem} {H F : Hp} {as : List Addr} {σ : L2.St} {pins : List (Addr × Obj)} {s : Shared} {Rq : It → Hp → Prop} {Wx : WX} (m : Mm X.K T μ H F as) (rel : RelW X.K F as r v) (p : PostI X.K X.mg T σ F as Rq Wx (itmOf r μ))
    (I : Inv X pins σ H s) (ru : RelV v u) : wpAny (model X.prog X.w) X.A (pyIter u) (PIE X pins σ tg Rq) X.xe s := by
  have lst : ∀ (a : Addr) (vs : List V), SqL X.K H a vs → Rq (Itl X.K a) H → wpAny (model X.prog X.w) X.A (pyIter (.ref a)) (PIE X pins σ tg Rq) X.xe s := fun a vs hq q => by
    obtain ⟨its, _, pl, _⟩ := I.list hq
    exact wpAny_pyIter_list pl.isList (pi_one (tk := s.toks) I _ (turn_list a _) ⟨_, Heap.get?_push_size _ rfl, rfl, rfl⟩ q)
  cases r with
  | d x =>
    cases x with
    | str z =>
      have hz : v = .str z := by cases rel; rfl
      subst hz
      obtain ⟨t, rfl⟩ := ru
      have q := p (Its z) H F as (Ext.refl _ _) m jrel_txt
      cases ha : z.cps.all (· < 128) with
      | false => exact wpAny_pyIter_wide ha (pi_one (tk := s.toks) I _ (turn_str _ z t "str_iterator" (.inr rfl)) ⟨_, Heap.get?_push_size _ rfl, rfl, rfl⟩ q)
      | true => exact wpAny_pyIter_ascii ha (pi_one (tk := s.toks) I _ (turn_str _ z t "str_ascii_iterator" (.inl rfl)) ⟨_, Heap.get?_push_size _ rfl, rfl, rfl⟩ q)
    | list ds =>
      obtain ⟨a, vs, rfl, hL, hd⟩ := see_list m rel (rfl : see (.d (.list ds)) μ = some (.list ds))
      cases ru
      exact lst a vs (.inl hL) (p _ H F as (Ext.refl _ _) m (jrel_list rel (fun μ1 ds' z => by cases z)))
    | tuple ds =>
      obtain ⟨a, vs, rfl, hL, _, hd⟩ := see_tup m rel (rfl : see (.d (.tuple ds)) μ = some (.tuple ds))
      cases ru
      have q := p (Itt X.K a) H F as (Ext.refl _ _) m (jrel_tup rel)
      obtain ⟨its, _, pt, _⟩ := I.tuple hL
      exact wpAny_pyIter_tuple (show s.heap.IsTuple a its.toArray from pt) (pi_one (tk := s.toks) I _ (turn_tuple a _) ⟨_, Heap.get?_push_size _ rfl, rfl, rfl⟩ q)
    | none => exact p.elim
    | bool b => exact p.elim
    | int i => exact p.elim
    | dict kvs => exact p.elim
  | c n =>
    obtain ⟨a, ha, rfl⟩ := id rel
    cases ru
    have hl : n < μ.length := by rw [m.len]; exact (List.getElem?_eq_some_iff.mp ha).1
    have he : μ[n]? = some μ[n] := List.getElem?_eq_getElem hl
    have hc := m.cell n μ[n] a he ha
    unfold itmOf at p
    simp only [he] at p
    cases hcc : μ[n] with
    | lst ds =>
      rw [hcc] at hc p
      obtain ⟨_, vs, h1, _⟩ := hc
      exact lst a vs (.inl (.inl h1)) (p (Itl X.K a) H F as (Ext.refl _ _) m (jrel_list rel (fun μ1 ds => see_c_tup)))
    | frz ds =>
      rw [hcc] at hc p
      obtain ⟨vs, h1, _⟩ := hc
      exact lst a vs (.inl (.inl (m.same _ _ h1))) (p (Itl X.K a) H F as (Ext.refl _ _) m (jrel_list rel (fun μ1 ds => see_c_tup)))
    | dk kvs => rw [hcc] at p; exact p.elim
  | fl ds => exact p.elim
  | fk ds => exact p.elim
  | o b => exact p.elim
theorem di_any {tg l : Expr} {c : EC} (h : DW X T l c) : DI X T tg l (iAny c) := by
  refine ⟨fun {ρ μ σ H F as} m en {Rq Wx} tk p pins s I => ?_⟩
  have go : PostW X.K X.mg T σ F as (fun v H' => ∀ (u : Value) (s1 : Shared), Inv X pins σ H' s1 → RelV v u → wpAny (model X.prog X.w) X.A (pyIter u) (PIE X pins σ tg Rq) X.xe s1) Wx (c ρ μ) :=
    wi_bind p fun a μ' p' v H' F' as' e m' r u s1 I1 ru => iter_any (Wx := Wx) m' r (p'.ext e) I1 ru
  exact thn (h.run m en tk go pins s I) fun u s1 ⟨v, H1, I1, r1, q1⟩ => q1 u s1 I1 r1
/-! ranges -/
def iR1 (c : EC) : Vr → Mem → Rs Itm := fun ρ μ => (c ρ μ).bind fun r μ1 => match r with
  | .d (.int j) => if -(2 ^ 62) ≤ j ∧ j < 2 ^ 62 then .ok (.rng 0 1 j.toNat) μ1 else .no
  | _ => .no
def iR2 (ca : AC) : Vr → Mem → Rs Itm := fun ρ μ => (ca ρ μ).bind fun rs μ1 => match rs with
  | [.d (.int i), .d (.int j)] => if -(2 ^ 62) ≤ i ∧ i < 2 ^ 62 ∧ -(2 ^ 62) ≤ j ∧ j < 2 ^ 62 then .ok (.rng i 1 (j - i).toNat) μ1 else .no
  | _ => .no
theorem di_range1 {tg a : Expr} {c : EC} {p : Pos} (hm : X.mg "range" = none) (h : DW X T a c) (hg : Gl X "range" := by rfl) (hs : starEach [a] X.env = [(false, eval a X.env)] := by rfl) : DI X T tg (.Call (.Name "range" p) [a] [] pos) (iR1 c) := by
  refine ⟨fun {ρ μ σ H F as} m en {Rq Wx} tk pp => vi_of (pi_range1 hg hm pa_self hs) ?_⟩
  refine va_of (pa_cons pe_self pa_nil (by rw [hs] <;> rfl)) ?_
  refine h.run m en tk (wi_bind pp fun r μ' p' v H' F' as' e m' rel => ?_)
  cases r with
  | d x =>
    cases x with
    | int j =>
      cases rel
      simp only at p'
      split at p'
      · rename_i hj
        exact ⟨j, rfl, hj.1, hj.2, p' (Itr 0 j.toNat) H' F' as' e m' jrel_rng⟩
      · exact p'.elim
    | _ => exact p'.elim
  | _ => exact p'.elim
theorem relws2 {K : PySem.W.Frag} {F : Hp} {as : List Addr} {i j : Int} {vs : List V} (h : RelWs K F as [.d (.int i), .d (.int j)] vs) : vs = [.int i, .int j] := by
  cases h with
  | cons a b =>
    cases b with
    | cons c d =>
      cases d
      cases a
      cases c
      rfl
theorem di_range2 {tg a b : Expr} {ca : AC} {p : Pos} (hm : X.mg "range" = none) (h : DA X T [a, b] ca) (hg : Gl X "range" := by rfl) (hs : starEach [a, b] X.env = [(false, eval a X.env), (false, eval b X.env)] := by rfl) (hs2 : starEach [b] X.env = [(false, eval b X.env)] := by rfl) :
    DI X T tg (.Call (.Name "range" p) [a, b] [] pos) (iR2 ca) := by
  refine ⟨fun {ρ μ σ H F as} m en {Rq Wx} tk pp => vi_of (pi_range2 hg hm pa_self hs hs2) ?_⟩
  refine h.run m en tk (ai_bind pp fun rs μ' p' vs H' F' as' e m' rel => ?_)
  split at p'
  · rename_i i j
    split at p'
    · rename_i hj
      exact ⟨i, j, relws2 rel, hj, p' (Itr i (j - i).toNat) H' F' as' e m' jrel_rng⟩
    · exact p'.elim
  · exact p'.elim
/-! enumerate of a list -/
theorem jrel_enm {K : PySem.W.Frag} {F : Hp} {as : List Addr} {r : R} {a : Addr} (h : RelW K F as r (.ref a)) (hl : ∀ (μ1 : Mem) (ds : List D), see r μ1 ≠ some (.tuple ds)) : JRel K T F as (.enm r) (Ite K a) := by
  intro F1 as1 μ1 H1 e m i
  have h1 := h.mono e
  have key : ∀ ds, seeL r μ1 = some ds → ∃ vs, SqL K H1 a vs ∧ DqAll K F1 vs ds := fun ds hd => by
    rcases seeL_cases hd with z | z
    · obtain ⟨b, vs, eb, q1, q2⟩ := see_list m h1 z
      cases eb
      exact ⟨vs, .inl q1, q2⟩
    · exact absurd z (hl _ _)
  refine ⟨fun hi => ?_, fun d hd => ?_⟩
  · unfold itLen at hi
    cases hs : seeL r μ1 with
    | none => simp [hs] at hi
    | some ds =>
      simp [hs] at hi
      obtain ⟨vs, q1, q2⟩ := key ds hs
      exact ⟨vs, q1, by rw [q2.length]; omega⟩
  · unfold itAt at hd
    cases hs : seeL r μ1 with
    | none => simp [hs] at hd
    | some ds =>
      simp only [hs] at hd
      cases hdi : ds[i]? with
      | none => rw [hdi] at hd; cases hd
      | some d0 =>
        rw [hdi] at hd
        cases hd
        obtain ⟨vs, q1, q2⟩ := key ds hs
        obtain ⟨v, g1, g2⟩ := q2.get hdi
        refine ⟨⟨vs, v, q1, g1⟩, fun x H2 y => ?_⟩
        obtain ⟨t, x', rfl, ht, rfl, y2⟩ := y
        have : x' = v := Option.some.inj ((y2 vs q1).symm.trans g1)
        subst this
        have hF := m.freeF ht
        exact ⟨upd F1 t (.tup [.int (i : Nat), x']), Ext.new hF, (m.alloc ht).freeze hF upd_same (m.notin ht) (fun ps z => by cases z), .tup (.inl (.inl upd_same)) (.cons (.int _) (.cons (Dq_mono (same_new hF) g2) .nil))⟩
def enmOf (r : R) (μ : Mem) : Rs Itm := match r with
  | .d (.list ds) => .ok (.enm (.d (.list ds))) μ
  | .c n => match μ[n]? with
    | some (.dk _) => .no
    | _ => .ok (.enm (.c n)) μ
  | _ => .no
theorem c_list {n : Nat} {v : V} {μ : Mem} {H F : Hp} {as : List Addr} {α : Type} {P : Rs α → Prop} {q : Rs α} (hno : ¬ P .no) (m : Mm X.K T μ H F as) (rel : RelW X.K F as (.c n) v) (p : P (match μ[n]? with
    | some (.dk _) => .no
    | _ => q)) : ∃ a vs, v = .ref a ∧ SqL X.K H a vs ∧ P q := by
  obtain ⟨a, ha, rfl⟩ := id rel
  have hl : n < μ.length := by rw [m.len]; exact (List.getElem?_eq_some_iff.mp ha).1
  have he : μ[n]? = some μ[n] := List.getElem?_eq_getElem hl
  have hc := m.cell n μ[n] a he ha
  simp only [he] at p
  cases hcc : μ[n] with
  | lst ds =>
    rw [hcc] at hc p
    obtain ⟨_, vs, h1, _⟩ := hc
    exact ⟨a, vs, rfl, .inl (.inl h1), p⟩
  | frz ds =>
    rw [hcc] at hc p
    obtain ⟨vs, h1, _⟩ := hc
    exact ⟨a, vs, rfl, .inl (.inl (m.same _ _ h1)), p⟩
  | dk kvs => rw [hcc] at p; exact (hno p).elim
def iEn (c : EC) : Vr → Mem → Rs Itm := fun ρ μ => (c ρ μ).bind enmOf
theorem di_enum {elts : List Expr} {kk : Nat} {tpos : Pos} {a : Expr} {c : EC} {p : Pos} (hm : X.mg "enumerate" = none) (h : DW X T a c) (hg : Gl X "enumerate" := by rfl) (hs : starEach [a] X.env = [(false, eval a X.env)] := by rfl) : DI X T (.Tuple elts kk tpos) (.Call (.Name "enumerate" p) [a] [] pos) (iEn c) := by
  refine ⟨fun {ρ μ σ H F as} m en {Rq Wx} tk pp => vi_of (pi_enum hg hm pa_self hs) ?_⟩
  refine va_of (pa_cons pe_self pa_nil (by rw [hs] <;> rfl)) ?_
  refine h.run m en tk (wi_bind pp fun r μ' p' v H' F' as' e m' rel => ?_)
  cases r with
  | d x =>
    cases x with
    | list ds =>
      obtain ⟨a, vs, rfl, hL, hd⟩ := see_list m' rel (rfl : see (.d (.list ds)) μ' = some (.list ds))
      exact ⟨a, vs, rfl, .inl hL, p' _ H' F' as' e m' (jrel_enm rel (fun μ1 ds' z => by cases z))⟩
    | _ => exact p'.elim
  | c n =>
    unfold enmOf at p'
    obtain ⟨a, vs, rfl, hL, q⟩ := c_list (P := PostI X.K X.mg T σ F as Rq Wx) (fun z => z) m' rel p'
    exact ⟨a, vs, rfl, hL, q _ H' F' as' e m' (jrel_enm rel (fun μ1 ds => see_c_tup))⟩
  | fl ds => exact p'.elim
  | fk ds => exact p'.elim
  | o b => exact p'.elim

/-! ### for, while -/
def forL (b : D → SC) (j : Itm) : Nat → Nat → SC
  | 0, i => fun ρ μ => if itLen j μ = some i then .nx ρ μ else .no
  | k + 1, i => fun ρ μ => match itAt j i μ with
    | some d => match b d ρ μ with
      | .nx ρ' μ' => forL b j k (i + 1) ρ' μ'
      | .ct ρ' μ' => forL b j k (i + 1) ρ' μ'
      | .bk ρ' μ' => .nx ρ' μ'
      | o => o
    | none => .no
def stepS (g : GC) (b : SC) : D → SC := fun d ρ μ => match g d ρ with
  | some ρ' => b ρ' μ
  | none => .no
def sFor (ci : Vr → Mem → Rs Itm) (g : GC) (b : SC) : SC := fun ρ μ => (ci ρ μ).thenS ρ fun j μ1 => match itLen j μ1 with
  | some n => forL (stepS g b) j n 0 ρ μ1
  | none => .no
theorem ds_for {tg iter : Expr} {body : List Stmt} {ci : Vr → Mem → Rs Itm} {sl : List Nat} {g : GC} {b : SC} (hi : DI X T tg iter ci) (hg : DG X T tg sl g) (hb : DB X T body b) (hp : PassesOwn (model X.prog X.w) X.A X.env X.xe := by exact passes_of rfl) (hc : X.calm = true := by rfl)
    (hs : ∀ x, foldedSetIterable iter X.env x = pure x := by intro _; rfl) : DS X T (.For tg iter body [] pos) (sFor ci g b) := by
  refine ⟨fun {ρ μ σ H F as} m en {D Wx} tk p => vs_of (ps_for hp hc pi_self pg_self pss_self hs) (hi.run (Wx := Wx) m en tk ?_)⟩
  unfold sFor at p
  cases hci : ci ρ μ with
  | no => rw [hci] at p; exact p
  | ex x μ' => rw [hci] at p; exact postx_of en p
  | ok j μ1 =>
    rw [hci] at p
    intro J H1 F1 as1 e1 m1 jr
    have p1 : PostS X.K X.mg T F1 as1 D Wx (match itLen j μ1 with
      | some n => forL (stepS g b) j n 0 ρ μ1
      | none => .no) := PostS.ext p e1
    cases hn : itLen j μ1 with
    | none => rw [hn] at p1; exact p1.elim
    | some n =>
      rw [hn] at p1
      refine ⟨fun i k σ2 H2 => ∃ (ρ2 : Vr) (μ2 : Mem) (F2 : Hp) (as2 : List Addr), Ext F1 as1 F2 as2 ∧ Mm X.K T μ2 H2 F2 as2 ∧ EnvR X.K ρ2 σ2 F2 as2 ∧ PostS X.K X.mg T F2 as2 D Wx (forL (stepS g b) j k i ρ2 μ2), ⟨n, ρ, μ1, F1, as1, Ext.refl _ _, m1, en.mono e1, p1⟩, ?_⟩
      rintro i k σ2 H2 ⟨ρ2, μ2, F2, as2, e2, m2, en2, p2⟩
      obtain ⟨js, jg⟩ := jr F2 as2 μ2 H2 e2 m2 i
      cases k with
      | zero =>
        unfold forL at p2
        by_cases hl : itLen j μ2 = some i
        · rw [if_pos hl] at p2
          exact .inl ⟨js hl, p2 σ2 H2 F2 as2 (Ext.refl _ _) m2 en2⟩
        · rw [if_neg hl] at p2; exact p2.elim
      | succ k =>
        unfold forL at p2
        cases hd : itAt j i μ2 with
        | none => rw [hd] at p2; exact p2.elim
        | some d =>
          rw [hd] at p2
          obtain ⟨go, yld⟩ := jg d hd
          refine .inr ⟨go, fun σ' H' => ∃ (ρ2 : Vr) (μ2 : Mem) (F2 : Hp) (as2 : List Addr), Ext F1 as1 F2 as2 ∧ Mm X.K T μ2 H' F2 as2 ∧ EnvR X.K ρ2 σ' F2 as2 ∧ PostS X.K X.mg T F2 as2 D Wx (forL (stepS g b) j k (i + 1) ρ2 μ2), fun σ' H' q => ⟨k, Nat.lt_succ_self k, q⟩, fun x H' y => ?_⟩
          obtain ⟨F3, e3, m3, dx⟩ := yld x H' y
          have en3 := en2.mono e3
          have p3 : PostS X.K X.mg T F3 as2 D Wx (match stepS g b d ρ2 μ2 with
            | .nx ρ' μ' => forL (stepS g b) j k (i + 1) ρ' μ'
            | .ct ρ' μ' => forL (stepS g b) j k (i + 1) ρ' μ'
            | .bk ρ' μ' => .nx ρ' μ'
            | o => o) := PostS.ext p2 e3
          unfold stepS at p3
          cases hgd : g d ρ2 with
          | none => simp only [hgd] at p3; exact p3.elim
          | some ρ' =>
            simp only [hgd] at p3
            refine hg.run m3 en3 dx hgd fun σ' en' _ _ => hb.run m3 en' tk ?_
            cases hbb : b ρ' μ2 with
            | nx ρ4 μ4 => rw [hbb] at p3; exact fun σ5 H5 F5 as5 e5 m5 en5 => ⟨ρ4, μ4, F5, as5, (e2.trans e3).trans e5, m5, en5, PostS.ext p3 e5⟩
            | ct ρ4 μ4 => rw [hbb] at p3; exact fun σ5 H5 F5 as5 e5 m5 en5 => ⟨ρ4, μ4, F5, as5, (e2.trans e3).trans e5, m5, en5, PostS.ext p3 e5⟩
            | bk ρ4 μ4 => rw [hbb] at p3; exact p3
            | rt r μ4 => rw [hbb] at p3; exact p3
            | ex x ρ4 μ4 => rw [hbb] at p3; exact p3
            | no => rw [hbb] at p3; exact p3
def whileL (t : TC) (b : SC) : Nat → SC
  | 0 => fun _ _ => .no
  | k + 1 => fun ρ μ => (t ρ μ).thenS ρ fun c μ1 => if c = true then (match b ρ μ1 with
      | .nx ρ' μ' => whileL t b k ρ' μ'
      | .ct ρ' μ' => whileL t b k ρ' μ'
      | .bk ρ' μ' => .nx ρ' μ'
      | o => o) else .nx ρ μ1
def sWhile (n : Nat) (t : TC) (b : SC) : SC := whileL t b n
theorem ds_while (n : Nat) {t : Expr} {body : List Stmt} {ct : TC} {b : SC} (ht : DT X T t ct) (hb : DB X T body b) (hp : PassesOwn (model X.prog X.w) X.A X.env X.xe := by exact passes_of rfl) : DS X T (.While t body [] pos) (sWhile n ct b) := by
  refine ⟨fun {ρ μ σ H F as} m en {D Wx} tk p => vs_of (ps_while hp pt_self pss_self) ?_⟩
  refine ⟨fun k σ2 H2 => ∃ (ρ2 : Vr) (μ2 : Mem) (F2 : Hp) (as2 : List Addr), Ext F as F2 as2 ∧ Mm X.K T μ2 H2 F2 as2 ∧ EnvR X.K ρ2 σ2 F2 as2 ∧ PostS X.K X.mg T F2 as2 D Wx (whileL ct b k ρ2 μ2), ⟨n, ρ, μ, F, as, Ext.refl _ _, m, en, p⟩, ?_⟩
  rintro k σ2 H2 ⟨ρ2, μ2, F2, as2, e2, m2, en2, p2⟩
  cases k with
  | zero => exact p2.elim
  | succ k =>
    unfold whileL at p2
    refine ht.run m2 en2 tk (t_then en2 p2 fun c μ3 p3 H3 F3 as3 e3 m3 => ?_)
    cases c with
    | false => exact p3 σ2 H3 F3 as3 e3 m3 (en2.mono e3)
    | true =>
      refine ⟨fun σ' H' => ∃ (ρ2 : Vr) (μ2 : Mem) (F2 : Hp) (as2 : List Addr), Ext F as F2 as2 ∧ Mm X.K T μ2 H' F2 as2 ∧ EnvR X.K ρ2 σ' F2 as2 ∧ PostS X.K X.mg T F2 as2 D Wx (whileL ct b k ρ2 μ2), fun σ' H' q => ⟨k, Nat.lt_succ_self k, q⟩, hb.run m3 (en2.mono e3) tk ?_⟩
      have p4 : PostS X.K X.mg T F3 as3 D Wx (match b ρ2 μ3 with
        | .nx ρ' μ' => whileL ct b k ρ' μ'
        | .ct ρ' μ' => whileL ct b k ρ' μ'
        | .bk ρ' μ' => .nx ρ' μ'
        | o => o) := PostS.ext p3 e3
      cases hbb : b ρ2 μ3 with
      | nx ρ4 μ4 => rw [hbb] at p4; exact fun σ5 H5 F5 as5 e5 m5 en5 => ⟨ρ4, μ4, F5, as5, (e2.trans e3).trans e5, m5, en5, PostS.ext p4 e5⟩
      | ct ρ4 μ4 => rw [hbb] at p4; exact fun σ5 H5 F5 as5 e5 m5 en5 => ⟨ρ4, μ4, F5, as5, (e2.trans e3).trans e5, m5, en5, PostS.ext p4 e5⟩
      | bk ρ4 μ4 => rw [hbb] at p4; exact p4
      | rt r μ4 => rw [hbb] at p4; exact p4
      | ex x ρ4 μ4 => rw [hbb] at p4; exact p4
      | no => rw [hbb] at p4; exact p4
end
end Em
set_option maxRecDepth 100000
namespace Em
open PySem PySem.Spec PyProof.Rows L2
def wipeR (ρ : Vr) : List Nat → Vr
  | [] => ρ
  | v :: vs => (wipeR ρ vs).set v none
theorem wipeR_len (ρ : Vr) : ∀ vs, (wipeR ρ vs).length = ρ.length
  | [] => rfl
  | v :: vs => by unfold wipeR; rw [List.length_set, wipeR_len ρ vs]
theorem wipeR_get {ρ : Vr} {i : Nat} : ∀ {vs : List Nat}, (wipeR ρ vs)[i]? = if i ∈ vs ∧ i < ρ.length then some none else ρ[i]?
  | [] => by simp [wipeR]
  | v :: vs => by
    unfold wipeR
    rw [List.getElem?_set]
    have ih := wipeR_get (ρ := ρ) (i := i) (vs := vs)
    by_cases hv : v = i
    · subst hv
      rw [if_pos rfl, wipeR_len]
      by_cases hl : v < ρ.length
      · rw [if_pos hl, if_pos ⟨by simp, hl⟩]
      · rw [if_neg hl, if_neg (by omega), List.getElem?_eq_none (by omega)]
    · rw [if_neg hv, ih]
      by_cases h : i ∈ vs ∧ i < ρ.length
      · rw [if_pos h, if_pos ⟨List.mem_cons_of_mem _ h.1, h.2⟩]
      · rw [if_neg h, if_neg]
        rintro ⟨h1, h2⟩
        rcases List.mem_cons.mp h1 with z | z
        · exact hv z.symm
        · exact h ⟨z, h2⟩
theorem wipe_get {σ : L2.St} {i : Nat} : ∀ {vs : List Nat}, (wipe σ vs)[i]? = if i ∈ vs ∧ i < σ.length then some none else σ[i]?
  | [] => by simp [wipe]
  | v :: vs => by
    unfold wipe
    rw [List.getElem?_set]
    have ih := wipe_get (σ := σ) (i := i) (vs := vs)
    by_cases hv : v = i
    · subst hv
      rw [if_pos rfl, wipe_length]
      by_cases hl : v < σ.length
      · rw [if_pos hl, if_pos ⟨by simp, hl⟩]
      · rw [if_neg hl, if_neg (by omega), List.getElem?_eq_none (by omega)]
    · rw [if_neg hv, ih]
      by_cases h : i ∈ vs ∧ i < σ.length
      · rw [if_pos h, if_pos ⟨List.mem_cons_of_mem _ h.1, h.2⟩]
      · rw [if_neg h, if_neg]
        rintro ⟨h1, h2⟩
        rcases List.mem_cons.mp h1 with z | z
        · exact hv z.symm
        · exact h ⟨z, h2⟩
theorem EnvR.wipe {K : PySem.W.Frag} {ρ : Vr} {σ : L2.St} {F : Hp} {as : List Addr} (en : EnvR K ρ σ F as) (vs : List Nat) : EnvR K (wipeR ρ vs) (L2.wipe σ vs) F as := by
  refine ⟨by rw [wipeR_len, wipe_length]; exact en.1, fun i r h => ?_⟩
  rw [wipeR_get] at h
  rw [wipe_get]
  by_cases q : i ∈ vs ∧ i < ρ.length
  · rw [if_pos q] at h; cases h
  · rw [if_neg q] at h
    rw [if_neg (by rw [← en.1]; exact q)]
    exact en.2 i r h
theorem wipe_same {σ σ' : L2.St} {sl vs : List Nat} (hl : σ'.length = (L2.wipe σ vs).length) (hk : ∀ j, j ∉ sl → σ'[j]? = (L2.wipe σ vs)[j]?) (hs : ∀ j ∈ sl, j ∈ vs) : L2.wipe σ' vs = L2.wipe σ vs := by
  rw [wipe_length] at hl
  apply List.ext_getElem?
  intro i
  rw [wipe_get]
  by_cases h : i ∈ vs ∧ i < σ'.length
  · rw [if_pos h, wipe_get, if_pos (by rw [← hl]; exact h)]
  · rw [if_neg h]
    by_cases hi : i ∈ vs
    · have hn : ¬ i < σ'.length := fun z => h ⟨hi, z⟩
      rw [List.getElem?_eq_none (by omega), List.getElem?_eq_none (by rw [wipe_length]; omega)]
    · exact hk i fun z => hi (hs i z)

/-! ### a comprehension's tests -/
def VTs (X : Cx) (ifs : List Expr) (σ : L2.St) (H : Hp) (Q : Bool → Hp → Prop) : Prop := ∀ (pins : List (Addr × Obj)) (s : Shared), Inv X pins σ H s →
  wpAny (model X.prog X.w) X.A (forIn ifs true fun c r => if r = true then do let ok ← isTrue c X.env (eval c X.env); pure (ForInStep.yield ok) else pure (ForInStep.yield r)) (TP X pins σ Q) X.xe s
theorem vts_of {X : Cx} {ifs : List Expr} {t : TT} {σ : L2.St} {H : Hp} {Q : Bool → Hp → Prop} (h : PTs X ifs t) (q : t σ H Q) : VTs X ifs σ H Q := fun pins s I => h.run pins s σ H Q I q
structure DTs (X : Cx) (T : Tb) (ifs : List Expr) (c : TC) : Prop where
  run : ∀ {ρ : Vr} {μ : Mem} {σ : L2.St} {H F : Hp} {as : List Addr}, Mm X.K T μ H F as → EnvR X.K ρ σ F as → ∀ {Q : Bool → Hp → Prop} {Wx : WX}, Takes X Wx → PostT X.K X.mg T σ F as Q Wx (c ρ μ) → VTs X ifs σ H Q
def cYes : TC := fun _ μ => .ok true μ
section
variable {X : Cx} {T : Tb} {pos : Pos}
theorem dts_nil : DTs X T [] cYes := ⟨fun {ρ μ σ H F as} m en {Q Wx} tk p => vts_of pts_nil (p H F as (Ext.refl _ _) m)⟩
theorem dts_one {e : Expr} {c : TC} (h : DT X T e c) : DTs X T [e] c := ⟨fun {ρ μ σ H F as} m en {Q Wx} tk p => vts_of (pts_one pt_self) (h.run m en tk p)⟩

/-! ### comprehensions -/
def lcF (own : List Nat) (g : GC) (tt : TC) (te : EC) (ρ : Vr) : D → Mem → Rs (Option D) := fun d μ => match g d (wipeR ρ own) with
  | some ρ' => match tt ρ' μ with
    | .ok true μ2 => match cD te ρ' μ2 with
      | .ok (.d x) μ3 => .ok (some x) μ3
      | _ => .no
    | .ok false μ2 => .ok none μ2
    | _ => .no
  | none => .no
def lcL (f : D → Mem → Rs (Option D)) (j : Itm) (n0 : Nat) : Nat → Nat → Mem → Rs R
  | 0, i, μ => if itLen j μ = some i then (match μ[n0]? with
      | some (.lst acc) => if μ.length = n0 + 1 then .ok (.fl acc) (μ.take n0) else .no
      | _ => .no) else .no
  | k + 1, i, μ => match itAt j i μ with
    | some d => match f d μ with
      | .ok (some x) μ' => match μ'[n0]? with
        | some (.lst acc) => if acc.length < sizeLine then lcL f j n0 k (i + 1) (μ'.set n0 (.lst (acc ++ [x]))) else .no
        | _ => .no
      | .ok none μ' => lcL f j n0 k (i + 1) μ'
      | _ => .no
    | none => .no
def cLc (ci : Vr → Mem → Rs Itm) (own : List Nat) (g : GC) (tt : TC) (te : EC) : EC := fun ρ μ => (ci ρ μ).bind fun j μ1 => match itLen j μ1 with
  | some n => lcL (lcF own g tt te ρ) j μ1.length n 0 (μ1 ++ [.lst []])
  | none => .no
abbrev BX (X : Cx) (scope : Scope) (s : Shared) (H : Hp) (C : Addr) (cl : List (Str × Addr)) (fp : List Addr) : Cx := X.blk s H scope (compEnvC scope cl C X.env) fp
def gAll (X : Cx) (scope : Scope) (tg : Expr) : TG := fun v σ H Q => ∀ (s : Shared) (H0 : Hp) (C : Addr) (cl : List (Str × Addr)) (fp : List Addr), VG (BX X scope s H0 C cl fp) tg v σ H Q
def tAll (X : Cx) (scope : Scope) (ifs : List Expr) : TT := fun σ H Q => ∀ (s : Shared) (H0 : Hp) (C : Addr) (cl : List (Str × Addr)) (fp : List Addr), VTs (BX X scope s H0 C cl fp) ifs σ H Q
def eAll (X : Cx) (scope : Scope) (e : Expr) : TE := fun σ H Q => ∀ (s : Shared) (H0 : Hp) (C : Addr) (cl : List (Str × Addr)) (fp : List Addr), VE (BX X scope s H0 C cl fp) e σ H Q
theorem lc_ok {tg iter elt : Expr} {ifs : List Expr} {scope : Scope} {vs sl : List Nat} {ci : Vr → Mem → Rs Itm} {g : GC} {tt : TC} {te : EC} (hi : DI X T tg iter ci) (hg : ∀ s H C cl fp, DG (BX X scope s H C cl fp) T tg sl g) (ht : ∀ s H C cl fp, DTs (BX X scope s H C cl fp) T ifs tt)
    (he : ∀ s H C cl fp, DE (BX X scope s H C cl fp) T elt te) (hsl : ∀ j ∈ sl, j ∈ vs) {ρ : Vr} {μ : Mem} {σ : L2.St} {H F : Hp} {as : List Addr} (m : Mm X.K T μ H F as) (en : EnvR X.K ρ σ F as) {Q : VK} {Wx : WX} (tk : Takes X Wx)
    (p : PostE X.K X.mg T σ F as Q Wx (cLc ci vs g tt te ρ μ)) : tLc (fun σ H Rq => VI X tg iter σ H Rq) (gAll X scope tg) (tAll X scope ifs) (eAll X scope elt) vs σ H Q := by
  refine hi.run (Wx := Wx) m en tk ?_
  unfold cLc at p
  cases hci : ci ρ μ with
  | no => rw [hci] at p; exact p
  | ex x μ' => rw [hci] at p; exact p
  | ok j μ1 =>
    rw [hci] at p
    intro J H1 F1 as1 e1 m1 jr Dl hD
    have p1 : PostE X.K X.mg T σ F1 as1 Q Wx (match itLen j μ1 with
      | some n => lcL (lcF vs g tt te ρ) j μ1.length n 0 (μ1 ++ [.lst []])
      | none => .no) := PostE.ext p e1
    cases hn : itLen j μ1 with
    | none => rw [hn] at p1; exact p1.elim
    | some n =>
      rw [hn] at p1
      have m0 : Mm X.K T (μ1 ++ [.lst []]) (upd H1 Dl (.lst [])) F1 (as1 ++ [Dl]) := (m1.alloc hD).adopt (m1.notin hD) ⟨m1.freeF hD, [], upd_same, .nil⟩
      have x1 : Ext F1 as1 F1 (as1 ++ [Dl]) := ⟨Same.refl _, [Dl], rfl⟩
      have at0 : ∀ {F2 : Hp} {as2 : List Addr}, Ext F1 (as1 ++ [Dl]) F2 as2 → as2[μ1.length]? = some Dl := fun e => e.get (by rw [m1.len, List.getElem?_append_right (Nat.le_refl _)]; simp)
      refine ⟨fun i k H2 => ∃ (μ2 : Mem) (F2 : Hp) (as2 : List Addr), Ext F1 (as1 ++ [Dl]) F2 as2 ∧ Mm X.K T μ2 H2 F2 as2 ∧ PostE X.K X.mg T σ F1 as1 Q Wx (lcL (lcF vs g tt te ρ) j μ1.length k i μ2), ⟨n, _, F1, _, Ext.refl _ _, m0, p1⟩, ?_⟩
      rintro i k H2 ⟨μ2, F2, as2, e2, m2, p2⟩
      obtain ⟨js, jg⟩ := jr F2 as2 μ2 H2 (x1.trans e2) m2 i
      cases k with
      | zero =>
        unfold lcL at p2
        by_cases hl : itLen j μ2 = some i
        · rw [if_pos hl] at p2
          refine .inl ⟨js hl, ?_⟩
          cases hc : μ2[μ1.length]? with
          | none => rw [hc] at p2; exact p2.elim
          | some c =>
            rw [hc] at p2
            cases c with
            | frz ds => exact p2.elim
            | dk ds => exact p2.elim
            | lst acc =>
              simp only at p2
              by_cases hlen : μ2.length = μ1.length + 1
              · rw [if_pos hlen] at p2
                obtain ⟨q1, vs', q2, q3⟩ := m2.cell _ _ _ hc (at0 e2)
                obtain ⟨sm, t, rfl⟩ := e2
                have ht0 : t = [] := by
                  have := m2.len
                  rw [hlen] at this
                  have l1 := m1.len
                  exact List.eq_nil_of_length_eq_zero (by simp only [List.length_append, List.length_cons, List.length_nil] at this; omega)
                subst ht0
                rw [List.append_nil] at m2
                exact p2 (.ref Dl) H2 F2 as1 (Ext.eqv sm) (m2.cut m1.len (m1.base.trans (Ext.eqv sm))) ⟨Dl, vs', rfl, m1.notin hD, q1, q2, q3⟩
              · rw [if_neg hlen] at p2; exact p2.elim
        · rw [if_neg hl] at p2; exact p2.elim
      | succ k =>
        unfold lcL at p2
        cases hd : itAt j i μ2 with
        | none => rw [hd] at p2; exact p2.elim
        | some d =>
          rw [hd] at p2
          obtain ⟨go, yld⟩ := jg d hd
          refine .inr ⟨go, fun H' => ∃ (μ2 : Mem) (F2 : Hp) (as2 : List Addr), Ext F1 (as1 ++ [Dl]) F2 as2 ∧ Mm X.K T μ2 H' F2 as2 ∧ PostE X.K X.mg T σ F1 as1 Q Wx (lcL (lcF vs g tt te ρ) j μ1.length k (i + 1) μ2), fun H' q => ⟨k, Nat.lt_succ_self k, q⟩, fun x H' y s0 H0 C cl fp => ?_⟩
          obtain ⟨F3, e3, m3, dx⟩ := yld x H' y
          have e23 := e2.trans e3
          have en3 : EnvR X.K (wipeR ρ vs) (L2.wipe σ vs) F3 as2 := (en.mono ((e1.trans x1).trans e23)).wipe vs
          unfold lcF at p2
          cases hgd : g d (wipeR ρ vs) with
          | none => simp only [hgd] at p2; exact p2.elim
          | some ρ' =>
            simp only [hgd] at p2
            refine (hg s0 H0 C cl fp).run m3 en3 dx hgd fun σ' en' hl hk => ⟨wipe_same hl hk hsl, fun s4 H4 C4 cl4 fp4 => ?_⟩
            refine (ht s4 H4 C4 cl4 fp4).run m3 en' takes0 ?_
            cases htt : tt ρ' μ2 with
            | no => simp only [htt] at p2; exact p2.elim
            | ex x μ' => simp only [htt] at p2; exact p2.elim
            | ok b μ4 =>
              simp only [htt] at p2
              intro H5 F5 as5 e5 m5
              have e235 := e23.trans e5
              cases b with
              | false => exact ⟨μ4, F5, as5, e235, m5, p2⟩
              | true =>
                intro s6 H6 C6 cl6 fp6
                refine ((he s6 H6 C6 cl6 fp6).data).run m5 (en'.mono e5) takes0 ?_
                cases hte : cD te ρ' μ4 with
                | no => simp only [hte] at p2; exact p2.elim
                | ex x μ' => simp only [hte] at p2; exact p2.elim
                | ok r μ7 =>
                  simp only [hte] at p2
                  cases r with
                  | c n => exact p2.elim
                  | fl ds => exact p2.elim
                  | fk ds => exact p2.elim
                  | o b => exact p2.elim
                  | d x7 =>
                    intro v7 H7 F7 as7 e7 m7 r7
                    have e2357 := e235.trans e7
                    simp only at p2
                    cases hc : μ7[μ1.length]? with
                    | none => rw [hc] at p2; exact p2.elim
                    | some c =>
                      rw [hc] at p2
                      cases c with
                      | frz ds => exact p2.elim
                      | dk ds => exact p2.elim
                      | lst acc =>
                        simp only at p2
                        obtain ⟨q1, vs', q2, q3⟩ := m7.cell _ _ _ hc (at0 e2357)
                        by_cases hsz : acc.length < sizeLine
                        · rw [if_pos hsz] at p2
                          refine ⟨vs', q2, by rw [q3.length]; exact hsz, _, F7, as7, e2357, m7.write (c' := .lst (acc ++ [x7])) (at0 e2357) q1 q2 (fun ps z => by cases z) (fun φ z => by cases z) ⟨q1, _, upd_same, q3.append (.cons r7 .nil)⟩, p2⟩
                        · rw [if_neg hsz] at p2; exact p2.elim
theorem de_lc {tg iter elt : Expr} {ifs : List Expr} {scope : Scope} {own : List (Str × Nat)} {sl : List Nat} {ci : Vr → Mem → Rs Itm} {g : GC} {tt : TC} {te : EC} (hN : X.N.Nodup) (hi : DI X T tg iter ci) (ok : BlkOk X.N X.env.scope scope own) (hg : ∀ s H C cl fp, DG (BX X scope s H C cl fp) T tg sl g) (ht : ∀ s H C cl fp, DTs (BX X scope s H C cl fp) T ifs tt)
    (he : ∀ s H C cl fp, DE (BX X scope s H C cl fp) T elt te) (hsl : ∀ j ∈ sl, j ∈ own.map (·.2) := by decide) (hc : X.calm = true := by rfl) (hs : ∀ x, foldedSetIterable iter X.env x = pure x := by intro _; rfl) :
    DE X T (.ListComp elt [⟨tg, iter, ifs, 0⟩] scope pos) (cLc ci (own.map (·.2)) g tt te) :=
  ⟨fun {_ _ _ _ _ _} m en {_ _} tk p => ve_of (pe_lc (te := eAll X scope elt) (g := gAll X scope tg) (tt := tAll X scope ifs) hc hN pi_self ok (fun s H C cl fp => ⟨fun pins s' σ H' v u Q I r h => h s H C cl fp pins s' u I r⟩) (fun s H C cl fp => ⟨fun pins s' σ H' Q I h => h s H C cl fp pins s' I⟩) (fun s H C cl fp => ⟨fun pins s' σ H' Q I h => h s H C cl fp pins s' I⟩) hs) (lc_ok hi hg ht he hsl m en tk p)⟩
/-- name = [..] -/
theorem ds_setLc (i : Nat) {y : Str} {py : Pos} {tg iter elt : Expr} {ifs : List Expr} {scope : Scope} {own : List (Str × Nat)} {sl : List Nat} {ci : Vr → Mem → Rs Itm} {g : GC} {tt : TC} {te : EC} {spos : Pos} (kind : EC → EC) (hkind : kind = cA ∨ kind = cD) (hN : X.N.Nodup) (hi : DI X T tg iter ci) (ok : BlkOk X.N X.env.scope scope own) (hg : ∀ s H C cl fp, DG (BX X scope s H C cl fp) T tg sl g) (ht : ∀ s H C cl fp, DTs (BX X scope s H C cl fp) T ifs tt)
    (he : ∀ s H C cl fp, DE (BX X scope s H C cl fp) T elt te) (hsl : ∀ j ∈ sl, j ∈ own.map (·.2) := by decide) (hc : X.calm = true := by rfl) (hs : ∀ x, foldedSetIterable iter X.env x = pure x := by intro _; rfl)
    (hy : X.N[i]? = some y := by rfl) (hyl : X.env.scope.names.lookup y = some .local := by rfl) (hsw : swapsWith (.ListComp elt [⟨tg, iter, ifs, 0⟩] scope pos) (some (.Name y py)) spos.line X.env = pure true := by exact sw_true rfl rfl rfl (by decide +kernel)) :
    DS X T (.Assign [.Name y py] (.ListComp elt [⟨tg, iter, ifs, 0⟩] scope pos) spos) (sSet i (kind (cLc ci (own.map (·.2)) g tt te))) := by
  refine ⟨fun {ρ μ σ H F as} m en {D Wx} tk p => vs_of (ps_setLc (te := eAll X scope elt) (g := gAll X scope tg) (tt := tAll X scope ifs) hc hN hy hyl hsw pi_self ok (fun s H C cl fp => ⟨fun pins s' σ H' v u Q I r h => h s H C cl fp pins s' u I r⟩) (fun s H C cl fp => ⟨fun pins s' σ H' Q I h => h s H C cl fp pins s' I⟩) (fun s H C cl fp => ⟨fun pins s' σ H' Q I h => h s H C cl fp pins s' I⟩) hs) ?_⟩
  refine lc_ok (Wx := Wx) hi hg ht he hsl m en tk ?_
  have wk : PostW X.K X.mg T σ F as (fun v H' => D.nx (σ.set i (some v)) H') Wx (kind (cLc ci (own.map (·.2)) g tt te) ρ μ) := w_then en p fun a μ' p' v H' F' as' e m' r => p' _ H' F' as' e m' ((en.mono e).set r i)
  rcases hkind with rfl | rfl
  · unfold cA at wk
    refine e_bind (P := PostW X.K X.mg T σ F as (fun v H' => D.nx (σ.set i (some v)) H') Wx) (fun _ _ p => p) (fun p => p) wk fun a μ' p' v H' F' as' ex m' r => ?_
    cases hh : adopt a μ' with
    | ok r' μ2 =>
      rw [hh] at p'
      obtain ⟨F2, as2, e2, m2, r2⟩ := adopt_ok m' r hh
      exact p' v H' F2 as2 (ex.trans e2) m2 r2
    | ex x μ2 => cases a <;> cases hh
    | no => cases a <;> cases hh
  · unfold cD at wk
    refine e_bind (P := PostW X.K X.mg T σ F as (fun v H' => D.nx (σ.set i (some v)) H') Wx) (fun _ _ p => p) (fun p => p) wk fun a μ' p' v H' F' as' ex m' r => ?_
    cases hh : toD a μ' with
    | ok r' μ2 =>
      rw [hh] at p'
      obtain ⟨F2, d, rfl, e2, m2, r2⟩ := toD_ok m' r hh
      exact p' v H' F2 as' (ex.trans e2) m2 r2
    | ex x μ2 =>
      cases a <;> simp only [toD] at hh <;> try cases hh
      split at hh <;> cases hh
    | no => rw [hh] at p'; exact p'.elim
end
end Em
set_option maxRecDepth 100000
namespace Em
open PySem PySem.Spec PyProof.Rows L2
section
variable {X : Cx} {T : Tb} {pos : Pos}
/-! ### arithmetic -/
def opAdd (ra rb : R) (μ : Mem) : Rs R := match see ra μ, see rb μ with
  | some (.int i), some (.int j) => .ok (.d (.int (i + j))) μ
  | some (.str i), some (.str j) => if i.length + j.length ≤ sizeLine then .ok (.d (.str (i ++ j))) μ else .no
  | some (.list xs), some (.list ys) => if xs.length + ys.length ≤ sizeLine then .ok (.fl (xs ++ ys)) μ else .no
  | some (.tuple xs), some (.tuple ys) => if xs.length + ys.length ≤ sizeLine then .ok (.d (.tuple (xs ++ ys))) μ else .no
  | _, _ => .no
/-- + of two lists, wherever they stand -/
def rCatL : R2 := fun x y H Q => ∃ l b xs zs, x = .ref l ∧ y = .ref b ∧ Rd H l (.lst xs) ∧ Rd H b (.lst zs) ∧ xs.length + zs.length ≤ sizeLine ∧ ∀ p, H p = none → Q (.ref p) (upd H p (.lst (xs ++ zs)))
theorem op_catL : OpR X (binaryOp .Add) rCatL := by
  intro pins s σ H x y v u Q I rx ry h
  obtain ⟨l, b, xs, zs, rfl, rfl, hl, hb, hz, q⟩ := h
  cases rx
  cases ry
  obtain ⟨z1, its, n, r, e⟩ := hl.ok I.hok
  obtain ⟨z2, its2, n2, r2, e2⟩ := hb.ok I.hok
  have l1 := r.length
  have l2 := r2.length
  refine PySem.P.add_list e e2 ?_ (by rw [List.size_toArray, List.size_toArray]; omega)
  rw [show its.toArray ++ its2.toArray = (its ++ its2).toArray by simp]
  exact ⟨.ref _, _, I.lnew (t' := s.toks) (r.append r2) (by rw [List.length_append]; omega), rfl, q _ I.fresh⟩
theorem od_add : OpD X T (binaryOp .Add) opAdd := by
  refine ⟨fun {μ H F as ra rb x y} m r1 r2 {σ Q Wx} p => ?_⟩
  unfold opAdd at p
  split at p
  · rename_i i j h1 h2
    exact ⟨_, op_add, i, j, see_int r1 h1, see_int r2 h2, p _ H F as (Ext.refl _ _) m (.int _)⟩
  · rename_i i j h1 h2
    split at p
    · rename_i hle
      exact ⟨_, op_add_str, i, j, see_str r1 h1, see_str r2 h2, hle, p _ H F as (Ext.refl _ _) m (.str _)⟩
    · exact p.elim
  · rename_i xs ys h1 h2
    obtain ⟨a, vs, rfl, q1, d1⟩ := see_list m r1 h1
    obtain ⟨b, ws, rfl, q2, d2⟩ := see_list m r2 h2
    split at p
    · rename_i hle
      exact ⟨_, op_catL, a, b, vs, ws, rfl, rfl, q1, q2, by rw [d1.length, d2.length]; exact hle, fun q hq => p _ _ F as (Ext.refl _ _) (m.alloc hq) ⟨q, _, rfl, m.notin hq, m.freeF hq, upd_same, d1.append d2⟩⟩
    · exact p.elim
  · rename_i xs ys h1 h2
    obtain ⟨a, vs, rfl, q1, f1, d1⟩ := see_tup m r1 h1
    obtain ⟨b, ws, rfl, q2, f2, d2⟩ := see_tup m r2 h2
    split at p
    · rename_i hle
      refine ⟨_, op_catA, a, b, vs, ws, rfl, rfl, q1, q2, by rw [d1.length, d2.length]; exact hle, fun e => ?_, fun _ e => ?_, fun _ _ q hq => ?_⟩
      · have z := d1.append d2
        rw [e, List.nil_append] at z
        exact p _ H F as (Ext.refl _ _) m (.tup f2 z)
      · have z := d1.append d2
        rw [e, List.append_nil] at z
        exact p _ H F as (Ext.refl _ _) m (.tup f1 z)
      · have hF := m.freeF hq
        exact p _ _ _ as (Ext.new hF) ((m.alloc hq).freeze hF upd_same (m.notin hq) (fun ps z => by cases z)) (.tup (.inl (.inl upd_same)) (DqAll_mono (same_new hF) (d1.append d2)))
    · exact p.elim
  · exact p.elim
/-- ints in, an int out, under a condition -/
def opII (C : Int → Int → Bool) (f : Int → Int → Int) (ra rb : R) (μ : Mem) : Rs R := match see ra μ, see rb μ with
  | some (.int i), some (.int j) => if C i j = true then .ok (.d (.int (f i j))) μ else .no
  | _, _ => .no
theorem od_II {op : Value → Value → Sem Value} {C : Int → Int → Bool} {f : Int → Int → Int} {r : R2} (h : OpR X op r) (hr : ∀ (i j : Int) (H : Hp) (Q : VK), C i j = true → Q (.int (f i j)) H → r (.int i) (.int j) H Q) : OpD X T op (opII C f) := by
  refine ⟨fun {μ H F as ra rb x y} m r1 r2 {σ Q Wx} p => ?_⟩
  unfold opII at p
  split at p
  · rename_i i j h1 h2
    obtain rfl := see_int r1 h1
    obtain rfl := see_int r2 h2
    split at p
    · rename_i hc
      exact ⟨_, h, hr i j H Q hc (p _ H F as (Ext.refl _ _) m (.int _))⟩
    · exact p.elim
  · exact p.elim
abbrev opSub := opII (fun _ _ => true) (fun i j => i - j)
theorem od_sub : OpD X T (binaryOp .Sub) opSub := od_II op_sub fun i j H Q _ q => ⟨i, j, rfl, rfl, q⟩
def cDivB (i j : Int) : Bool := decide (0 < j ∧ j < 1073741824)
abbrev opDiv := opII cDivB (fun i j => i / j)
theorem od_div : OpD X T (binaryOp .FloorDiv) opDiv := od_II op_fdiv fun i j H Q c q => ⟨i, j, rfl, rfl, (show 0 < j ∧ j < 1073741824 from of_decide_eq_true c), q⟩
abbrev opMod := opII (fun _ j => decide (0 < j)) (fun i j => i % j)
theorem od_mod : OpD X T (binaryOp .Mod) opMod := od_II op_mod fun i j H Q c q => ⟨i, j, rfl, rfl, of_decide_eq_true c, q⟩
abbrev opPow := opII (fun i j => decide (0 ≤ j ∧ j ≤ 1000000 ∧ i.natAbs < 2 ^ 64)) (fun i j => i ^ j.toNat)
theorem od_pow : OpD X T (binaryOp .Pow) opPow := od_II op_pow fun i j H Q c q => ⟨i, j, rfl, rfl, (show 0 ≤ j ∧ j ≤ 1000000 ∧ i.natAbs < 2 ^ 64 from of_decide_eq_true c), q⟩
/-- a text so many times -/
def strRep (x : Str) (n : Int) : Str := ⟨((List.replicate n.toNat x.cps.toList).flatten).toArray⟩
theorem foldl_codes (l : List Nat) : ∀ (k : Nat) (acc : List Nat), List.foldl (fun x1 x2 => x1 ++ x2) acc.toArray (List.replicate k l.toArray) = (acc ++ (List.replicate k l).flatten).toArray
  | 0, acc => by simp
  | k + 1, acc => by
    have ih := foldl_codes l k (acc ++ l)
    rw [List.replicate_succ, List.foldl_cons, List.replicate_succ, List.flatten_cons, ← List.append_assoc, ← ih]
    simp
def rRepS : R2 := fun x y H Q => ∃ z n, x = .str z ∧ y = .int n ∧ -1000000 ≤ n ∧ n ≤ 100000 ∧ z.length ≤ 100 ∧ Q (.str (strRep z n)) H
theorem strRep_one (z : Str) : strRep z 1 = z := by
  unfold strRep
  simp
theorem op_repS : OpR X (binaryOp .Mult) rRepS := by
  intro pins s σ H x y v u Q I rx ry h
  obtain ⟨z, n, rfl, rfl, h1, h2, h3, q⟩ := h
  obtain ⟨t, rfl⟩ := rx
  obtain ⟨t', rfl⟩ := ry
  refine PySem.P.mul_str ?_ (fun hn _ => ?_) (fun hn _ => ?_) ?_
  · rw [decide_eq_false (by omega), decide_eq_false (by omega)]; rfl
  · intro hgt
    have : (z.length : Int) ≤ 100 := by omega
    have h4 : (2 ^ 63 - 1) / 100000 ≤ (2 ^ 63 - 1) / n := by
      refine Int.le_ediv_of_mul_le (by omega) ?_
      have : (2 ^ 63 - 1 : Int) / 100000 * n ≤ (2 ^ 63 - 1) / 100000 * 100000 := Int.mul_le_mul_of_nonneg_left (by omega) (by decide)
      exact Int.le_trans this (by decide)
    have h5 : (100 : Int) < (2 ^ 63 - 1) / 100000 := by decide
    omega
  · have a1 : z.length * n.toNat ≤ 100 * 100000 := Nat.mul_le_mul h3 (by omega)
    unfold Builtin.Str.tooLong
    rw [decide_eq_false]
    unfold sizeLine
    omega
  · have key : strRep z n = ⟨(List.replicate n.toNat z.cps).foldl (· ++ ·) #[]⟩ := by
      unfold strRep
      have := foldl_codes z.cps.toList n.toNat []
      rw [List.nil_append] at this
      rw [← this]
    have hsz : (strRep z n).length ≤ sizeLine := by
      unfold strRep Str.length
      simp only [List.size_toArray, List.length_flatten, List.map_replicate, List.sum_replicate_nat]
      have : z.cps.toList.length ≤ 100 := by rw [Array.length_toList]; exact h3
      have a1 : n.toNat * z.cps.toList.length ≤ 100000 * 100 := Nat.mul_le_mul (by omega) this
      unfold sizeLine
      omega
    split
    · rename_i hn
      have e : strRep z n = Str.empty := by
        unfold strRep
        rw [show n.toNat = 0 by omega]
        rfl
      rw [e] at q
      exact ⟨by decide, .str _, H, I.tok _, ⟨_, rfl⟩, q⟩
    · split
      · rename_i hn hn2
        have e : strRep z n = z := by
          rcases Bool.or_eq_true_iff.mp hn2 with h | h
          · rw [eq_of_beq h]; exact strRep_one z
          · have h0 : z.cps.toList = [] := by
              have : z.cps.size = 0 := eq_of_beq h
              exact List.eq_nil_of_length_eq_zero (by simpa using this)
            unfold strRep
            rw [h0]
            have : (List.replicate n.toNat ([] : List Nat)).flatten = [] := by simp
            rw [this]
            have h00 : z.cps = #[] := by
              apply Array.toList_inj.mp
              rw [h0]
            cases z
            simp only at h00
            rw [h00]
        rw [e] at q
        exact ⟨.str _, H, I, ⟨_, rfl⟩, q⟩
      · rw [← key]
        exact ⟨hsz, .str _, H, I.tok _, ⟨_, rfl⟩, q⟩
def opMul (ra rb : R) (μ : Mem) : Rs R := match see ra μ, see rb μ with
  | some (.int i), some (.int j) => if (-(2 ^ 64) < i ∧ i < 2 ^ 64) ∨ (-(2 ^ 64) < j ∧ j < 2 ^ 64) then .ok (.d (.int (i * j))) μ else .no
  | some (.str z), some (.int n) => if -1000000 ≤ n ∧ n ≤ 100000 ∧ z.length ≤ 100 then .ok (.d (.str (strRep z n))) μ else .no
  | some (.list xs), some (.int n) => if -1000000 ≤ n ∧ n ≤ 1000000 ∧ xs.length * n.toNat ≤ sizeLine then .ok (.fl (List.replicate n.toNat xs).flatten) μ else .no
  | _, _ => .no
theorem rep_all {K : PySem.W.Frag} {F : Hp} {vs : List V} {ds : List D} (h : DqAll K F vs ds) : ∀ n, DqAll K F (List.replicate n vs).flatten (List.replicate n ds).flatten
  | 0 => .nil
  | n + 1 => by rw [List.replicate_succ, List.replicate_succ, List.flatten_cons, List.flatten_cons]; exact h.append (rep_all h n)
def rRepL : R2 := fun x y H Q => ∃ l k xs, x = .ref l ∧ y = .int k ∧ Rd H l (.lst xs) ∧ -(2 ^ 63) ≤ k ∧ k < 2 ^ 63 ∧ xs.length * k.toNat ≤ sizeLine ∧ ∀ p, H p = none → Q (.ref p) (upd H p (.lst (List.replicate k.toNat xs).flatten))
theorem od_mul (hL : OpR X (binaryOp .Mult) rRepL) : OpD X T (binaryOp .Mult) opMul := by
  refine ⟨fun {μ H F as ra rb x y} m r1 r2 {σ Q Wx} p => ?_⟩
  unfold opMul at p
  split at p
  · rename_i i j h1 h2
    split at p
    · rename_i hc
      exact ⟨_, op_mul, i, j, see_int r1 h1, see_int r2 h2, hc, p _ H F as (Ext.refl _ _) m (.int _)⟩
    · exact p.elim
  · rename_i i j h1 h2
    split at p
    · rename_i hc
      exact ⟨_, op_repS, i, j, see_str r1 h1, see_int r2 h2, hc.1, hc.2.1, hc.2.2, p _ H F as (Ext.refl _ _) m (.str _)⟩
    · exact p.elim
  · rename_i xs n h1 h2
    obtain ⟨a, vs, rfl, q1, d1⟩ := see_list m r1 h1
    split at p
    · rename_i hc
      exact ⟨_, hL, a, n, vs, rfl, see_int r2 h2, q1, by omega, by omega, by rw [d1.length]; exact hc.2.2, fun q hq => p _ _ F as (Ext.refl _ _) (m.alloc hq) ⟨q, _, rfl, m.notin hq, m.freeF hq, upd_same, rep_all d1 _⟩⟩
    · exact p.elim
  · exact p.elim
/-! one operand -/
def cNeg (c : EC) : EC := fun ρ μ => (c ρ μ).bind fun r μ1 => match r with
  | .d (.int i) => .ok (.d (.int (-i))) μ1
  | _ => .no
theorem de_neg {a : Expr} {c : EC} (h : DE X T a c) : DE X T (.UnaryOp .USub a pos) (cNeg c) := by
  refine ⟨fun {ρ μ σ H F as} m en {Q Wx} tk p => ve_of (pe_un un_neg pe_self) (h.run m en tk (e_bind (P := PostE X.K X.mg T σ F as Q Wx) (fun _ _ p => p) (fun p => p) p fun r μ1 p1 v H1 F1 as1 e1 m1 r1 => ?_))⟩
  cases r with
  | d x =>
    cases x with
    | int i => cases r1; exact ⟨i, rfl, p1 _ H1 F1 as1 e1 m1 (.int _)⟩
    | _ => exact p1.elim
  | _ => exact p1.elim

/-! ### comparisons -/
/-- two ints or two texts -/
def opOrd (fi : Int → Int → Bool) (fs : List Nat → List Nat → Bool) (ra rb : R) (μ : Mem) : Rs R := match see ra μ, see rb μ with
  | some (.int i), some (.int j) => .ok (.d (.bool (fi i j))) μ
  | some (.str i), some (.str j) => .ok (.d (.bool (fs i.cps.toList j.cps.toList))) μ
  | _, _ => .no
theorem od_ord {op : Value → Value → Sem Value} {fi : Int → Int → Bool} {fs : List Nat → List Nat → Bool} {r r' : R2} (h : OpR X op r) (h' : OpR X op r') (hr : ∀ (i j : Int) (H : Hp) (Q : VK), Q (.bl (fi i j)) H → r (.int i) (.int j) H Q)
    (hs : ∀ (i j : Str) (H : Hp) (Q : VK), Q (.bl (fs i.cps.toList j.cps.toList)) H → r' (.str i) (.str j) H Q) : OpD X T op (opOrd fi fs) := by
  refine ⟨fun {μ H F as ra rb x y} m r1 r2 {σ Q Wx} p => ?_⟩
  unfold opOrd at p
  split at p
  · rename_i i j h1 h2
    obtain rfl := see_int r1 h1
    obtain rfl := see_int r2 h2
    exact ⟨_, h, hr i j H Q (p _ H F as (Ext.refl _ _) m (.bl _))⟩
  · rename_i i j h1 h2
    obtain rfl := see_str r1 h1
    obtain rfl := see_str r2 h2
    exact ⟨_, h', hs i j H Q (p _ H F as (Ext.refl _ _) m (.bl _))⟩
  · exact p.elim
abbrev opLt := opOrd (fun i j => decide (i < j)) (fun i j => decide (i < j))
abbrev opLe := opOrd (fun i j => decide (i ≤ j)) (fun i j => !decide (j < i))
abbrev opGt := opOrd (fun i j => decide (j < i)) (fun i j => decide (j < i))
abbrev opGe := opOrd (fun i j => decide (j ≤ i)) (fun i j => !decide (i < j))
theorem od_lt : OpD X T (compareOp .Lt) opLt := od_ord op_lt op_lt_str (fun i j H Q q => ⟨i, j, rfl, rfl, q⟩) (fun i j H Q q => ⟨i, j, rfl, rfl, q⟩)
theorem od_le : OpD X T (compareOp .LtE) opLe := od_ord op_le op_le_str (fun i j H Q q => ⟨i, j, rfl, rfl, q⟩) (fun i j H Q q => ⟨i, j, rfl, rfl, q⟩)
theorem od_gt : OpD X T (compareOp .Gt) opGt := od_ord op_gt op_gt_str (fun i j H Q q => ⟨i, j, rfl, rfl, q⟩) (fun i j H Q q => ⟨i, j, rfl, rfl, q⟩)
theorem od_ge : OpD X T (compareOp .GtE) opGe := od_ord op_ge op_ge_str (fun i j H Q q => ⟨i, j, rfl, rfl, q⟩) (fun i j H Q q => ⟨i, j, rfl, rfl, q⟩)
/-- flat data -/
def flatD : D → Bool
  | .none => true
  | .bool _ => true
  | .int _ => true
  | .str _ => true
  | _ => false
/-- two of a kind, flat -/
def kinD : D → D → Bool
  | .none, .none => true
  | .int _, .int _ => true
  | .bool _, .bool _ => true
  | .str _, .str _ => true
  | .none, .int _ => true
  | .none, .bool _ => true
  | .none, .str _ => true
  | .int _, .none => true
  | .bool _, .none => true
  | .str _, .none => true
  | .int _, .str _ => true
  | .str _, .int _ => true
  | .bool _, .str _ => true
  | .str _, .bool _ => true
  | _, _ => false
theorem kin_scal {K : PySem.W.Frag} {F : Hp} {x y : V} {d e : D} (h : Dq K F x d) (h' : Dq K F y e) (k : kinD d e = true) : scal x y = true ∧ decide (x = y) = PyData.eqv d e := by
  cases h <;> cases h' <;> first
    | (simp [kinD] at k; done)
    | (refine ⟨rfl, ?_⟩; simp [PyData.eqv]; done)
    | (refine ⟨rfl, ?_⟩; simp only [PyData.eqv, V.int.injEq, V.str.injEq, V.bl.injEq]; exact (Bool.beq_eq_decide_eq _ _).symm)
def opEq (neg : Bool) (ra rb : R) (μ : Mem) : Rs R := match see ra μ, see rb μ with
  | some d, some e => if kinD d e = true ∨ (SeqAt.shaped d = true ∧ SeqAt.shaped e = true) then .ok (.d (.bool (if neg = true then !PyData.eqv d e else PyData.eqv d e))) μ else .no
  | _, _ => .no
theorem od_eq {k : Nat} (hr : Room k X.A) : OpD X T (compareOp .Eq) (opEq false) := by
  refine ⟨fun {μ H F as ra rb x y} m r1 r2 {σ Q Wx} p => ?_⟩
  unfold opEq at p
  split at p
  · rename_i d e h1 h2
    have d1 := see_Dq m r1 h1
    have d2 := see_Dq m r2 h2
    split at p
    · rename_i hc
      have q := p (.bl (PyData.eqv d e)) H F as (Ext.refl _ _) m (.bl _)
      by_cases hk : kinD d e = true
      · obtain ⟨s1, s2⟩ := kin_scal d1 d2 hk
        exact ⟨_, op_eq, s1, by rw [s2]; exact q⟩
      · obtain ⟨s1, s2⟩ := hc.resolve_left hk
        exact ⟨_, op_eqD hr.units, d, e, d1.dp, d2.dp, s1, s2, q⟩
    · exact p.elim
  · exact p.elim
theorem od_ne {k : Nat} (hr : Room k X.A) : OpD X T (compareOp .NotEq) (opEq true) := by
  refine ⟨fun {μ H F as ra rb x y} m r1 r2 {σ Q Wx} p => ?_⟩
  unfold opEq at p
  split at p
  · rename_i d e h1 h2
    have d1 := see_Dq m r1 h1
    have d2 := see_Dq m r2 h2
    split at p
    · rename_i hc
      have q := p (.bl (!PyData.eqv d e)) H F as (Ext.refl _ _) m (.bl _)
      by_cases hk : kinD d e = true
      · obtain ⟨s1, s2⟩ := kin_scal d1 d2 hk
        exact ⟨_, op_ne, s1, by rw [s2]; exact q⟩
      · obtain ⟨s1, s2⟩ := hc.resolve_left hk
        exact ⟨_, op_neD hr.units, d, e, d1.dp, d2.dp, s1, s2, q⟩
    · exact p.elim
  · exact p.elim
/-- is None -/
def opIsN (neg : Bool) (ra rb : R) (μ : Mem) : Rs R := match rb with
  | .d .none => match ra with
    | .d .none => .ok (.d (.bool (!neg))) μ
    | .d _ => .ok (.d (.bool neg)) μ
    | .c _ => .ok (.d (.bool neg)) μ
    | _ => .no
  | _ => .no
theorem dq_non {K : PySem.W.Frag} {F : Hp} {x : V} {d : D} (h : Dq K F x d) : decide (x = .non) = (match d with | .none => true | _ => false) := by
  cases h <;> rfl
theorem od_isN : OpD X T (compareOp .Is) (opIsN false) := by
  refine ⟨fun {μ H F as ra rb x y} m r1 r2 {σ Q Wx} p => ?_⟩
  cases rb with
  | d e =>
    cases e with
    | none =>
      cases r2
      refine ⟨_, op_isN, rfl, ?_⟩
      cases ra with
      | d d0 =>
        have z := dq_non r1
        rw [z]
        cases d0 <;> exact p _ H F as (Ext.refl _ _) m (.bl _)
      | c n => obtain ⟨a, _, rfl⟩ := r1; exact p _ H F as (Ext.refl _ _) m (.bl _)
      | fl ds => exact p.elim
      | fk ds => exact p.elim
      | o b => exact p.elim
    | _ => exact p.elim
  | _ => exact p.elim
theorem od_isNotN : OpD X T (compareOp .IsNot) (opIsN true) := by
  refine ⟨fun {μ H F as ra rb x y} m r1 r2 {σ Q Wx} p => ?_⟩
  cases rb with
  | d e =>
    cases e with
    | none =>
      cases r2
      refine ⟨_, op_notN, rfl, ?_⟩
      cases ra with
      | d d0 =>
        have z := dq_non r1
        rw [z]
        cases d0 <;> exact p _ H F as (Ext.refl _ _) m (.bl _)
      | c n => obtain ⟨a, _, rfl⟩ := r1; exact p _ H F as (Ext.refl _ _) m (.bl _)
      | fl ds => exact p.elim
      | fk ds => exact p.elim
      | o b => exact p.elim
    | _ => exact p.elim
  | _ => exact p.elim
/-! a op b op' c -/
def cChain (o o' : R → R → Mem → Rs R) (a b c : EC) : EC := fun ρ μ => (a ρ μ).bind fun ra μ1 => (b ρ μ1).bind fun rb μ2 => (o ra rb μ2).bind fun r μ3 => (bT r μ3).bind fun k μ4 =>
  if k = true then (c ρ μ4).bind fun rc μ5 => o' rb rc μ5 else .ok (.d (.bool false)) μ4
theorem chain_run {a b c : Expr} {ca cb cc : EC} {f f' : Value → Value → Sem Value} {o o' : R → R → Mem → Rs R} (ho : OpD X T f o) (ho' : OpD X T f' o') (ha : DW X T a ca) (hb : DW X T b cb) (hc : DW X T c cc) {ρ : Vr} {μ : Mem} {σ : L2.St} {H F : Hp} {as : List Addr} (m : Mm X.K T μ H F as) (en : EnvR X.K ρ σ F as) {Q : VK} {Wx : WX} (tk : Takes X Wx)
    (p : PostE X.K X.mg T σ F as Q Wx (cChain o o' ca cb cc ρ μ)) : tChain (rAll2 X f) (rAll2 X f') (fun σ H Q => VE X a σ H Q) (fun σ H Q => VE X b σ H Q) (fun σ H Q => VE X c σ H Q) σ H Q := by
  refine ha.run m en tk (w_bind (P := PostE X.K X.mg T σ F as Q Wx) (fun _ _ p => p) (fun p => p) p fun ra μ1 p1 x H1 F1 as1 e1 m1 r1 => ?_)
  refine hb.run m1 (en.mono e1) tk (w_bind (P := PostE X.K X.mg T σ F1 as1 Q Wx) (fun _ _ p => p) (fun p => p) (p1.ext e1) fun rb μ2 p2 y H2 F2 as2 e2 m2 r2 => ?_)
  have p2' := p2.ext e2
  refine ho.run (Wx := Wx) (σ := σ) m2 (r1.mono e2) r2 (e_bind (P := PostE X.K X.mg T σ F2 as2 Q Wx) (fun _ _ p => p) (fun p => p) p2' fun r μ3 p3 v H3 F3 as3 e3 m3 r3 => ?_)
  obtain ⟨k, rfl, p4⟩ := bT_cases (P := PostE X.K X.mg T σ F2 as2 Q Wx) (fun p => p) p3
  cases r3
  refine ⟨k, rfl, ?_⟩
  cases k with
  | false => exact p4 _ H3 F3 as3 e3 m3 (.bl false)
  | true =>
    refine hc.run m3 (en.mono ((e1.trans e2).trans e3)) tk (w_bind (P := PostE X.K X.mg T σ F3 as3 Q Wx) (fun _ _ p => p) (fun p => p) (p4.ext e3) fun rc μ5 p5 w H5 F5 as5 e5 m5 r5 => ?_)
    exact ho'.run m5 (r2.mono (e3.trans e5)) r5 (p5.ext e5)
theorem de_chain {op op' : CmpOp} {a b c : Expr} {ca cb cc : EC} {o o' : R → R → Mem → Rs R} (ho : OpD X T (compareOp op) o) (ho' : OpD X T (compareOp op') o') (ha : DW X T a ca) (hb : DW X T b cb) (hc : DW X T c cc)
    (hm : lastMarks [op, op'] [b, c] = false := by with_unfolding_all rfl) : DE X T (.Compare a [op, op'] [b, c] pos) (cChain o o' ca cb cc) :=
  ⟨fun {_ _ _ _ _ _} m en {_ _} tk p => ve_of (pe_chain all2 all2 pe_self pe_self pe_self hm) (chain_run ho ho' ha hb hc m en tk p)⟩
theorem dt_chain {op op' : CmpOp} {a b c : Expr} {ca cb cc : EC} {o o' : R → R → Mem → Rs R} (ho : OpD X T (compareOp op) o) (ho' : OpD X T (compareOp op') o') (ha : DW X T a ca) (hb : DW X T b cb) (hc : DW X T c cc)
    (hm : lastMarks [op, op'] [b, c] = false := by with_unfolding_all rfl) : DT X T (.Compare a [op, op'] [b, c] pos) (cT (cChain o o' ca cb cc)) :=
  ⟨fun {_ _ _ _ _ _} m en {_ _} tk p => vt_of (pt_chain all2 all2 pe_self pe_self pe_self hm) (chain_run ho ho' ha hb hc m en tk (t_of_e p))⟩
end
end Em
set_option maxRecDepth 100000
namespace Em
open PySem PySem.Spec PyProof.Rows L2
section
variable {X : Cx} {T : Tb} {pos : Pos}
/-! ### list * int -/
theorem op_repL : OpR X (binaryOp .Mult) rRepL := by
  intro pins s σ H x y v u Q I rx ry h
  obtain ⟨l, k, xs, rfl, rfl, hl, h1, h2, hz, q⟩ := h
  cases rx
  obtain ⟨tk, rfl⟩ := ry
  obtain ⟨_, its, cap, rel, at_⟩ := hl.ok I.hok
  have len := rel.length
  have fit : its.toArray.size * k.toNat ≤ sizeLine := by rw [List.size_toArray, ← len]; exact hz
  have big : (sizeLine : Nat) ≤ (2 ^ 63 - 1) / 8 := by decide
  have c1 : ¬ (!Builtin.List.listFitsIndex k) = true := by rw [fitsIndex_both h1 h2]; exact Bool.false_ne_true
  have c2 : ¬ its.toArray.size * k.toNat > (2 ^ 63 - 1) / 8 := by omega
  have c3 : ¬ Builtin.List.listTooLong (its.toArray.size * k.toNat) = true := by rw [notLongL fit]; exact Bool.false_ne_true
  have whole : List.foldl (fun x1 x2 => x1 ++ x2) #[] (List.replicate (if its.toArray.isEmpty = true then 0 else k.toNat) its.toArray) = (List.replicate k.toNat its).flatten.toArray := by
    cases its with
    | nil => simp
    | cons w ws =>
      have z := foldl_rep (w :: ws) k.toNat []
      rw [List.nil_append] at z
      rw [if_neg (by simp)]
      exact z
  refine wpAny_binaryOp_repeat_ref (T := "list") (U := "int") (by decide) ⟨_, at_, rfl⟩ (fun s' => typeIs_int s' k tk) noFill_list_mul F.fills_int_mul F.slot_int_rmul repeat_list F.slot_int_index.lookup ?_
  refine call_meets F.slot_int_rmul (typeIs_int s k tk) F.entry_int_rmul (F.args_int_rmul_2 _ _) (int___rmul___int_list k tk l its.toArray cap) ⟨at_, rfl, ⟨_, at_, rfl⟩, ?_⟩
  refine call_meets F.slot_list_mul ⟨_, at_, rfl⟩ F.entry_list_mul (F.args_list_mul_2 _ _) (AutoListH.list___mul___list_int_3 l its.toArray cap k tk c1 c2 c3) ⟨at_, ?_⟩
  rw [whole]
  have nl : (List.replicate k.toNat xs).flatten.length ≤ sizeLine := by rw [PyProof.Rows.lm_len_rep_flat, Nat.mul_comm]; exact hz
  exact ⟨.ref _, _, I.lnew (t' := s.toks) (rel.rep k.toNat) nl, rfl, q _ I.fresh⟩
/-! ### in -/
def opIn (neg : Bool) (ra rb : R) (μ : Mem) : Rs R := match see ra μ, see rb μ with
  | some d, some (.list ds) => if SeqAt.shaped d = true ∧ PyData.canLayAll0 ds = true then .ok (.d (.bool (if neg = true then !ds.any fun z => PyData.eqv z d else ds.any fun z => PyData.eqv z d))) μ else .no
  | some d, some (.tuple ds) => if SeqAt.shaped d = true ∧ PyData.canLayAll0 ds = true then .ok (.d (.bool (if neg = true then !ds.any fun z => PyData.eqv z d else ds.any fun z => PyData.eqv z d))) μ else .no
  | _, _ => .no
def rInQ (K : PySem.W.Frag) (neg : Bool) : R2 := fun x y H Q => ∃ d ds, Dp K H x d ∧ (Dp K H y (.list ds) ∨ Dp K H y (.tuple ds)) ∧ SeqAt.shaped d = true ∧ PyData.canLayAll0 ds = true ∧ Q (.bl (if neg = true then !ds.any fun z => PyData.eqv z d else ds.any fun z => PyData.eqv z d)) H
theorem room_in {A : Around} {d : PyData} {ds : List PyData} (h : SeqAt.shaped d = true) {k : Nat} (hr : Room k A) : A.units + 1 + min (PyData.depthAll ds) d.depth < cLine := by
  have h1 := SeqAt.depth_of_shaped h
  have h2 := hr.un
  omega
theorem op_inQ {k : Nat} (hr : Room k X.A) : OpR X (compareOp .In) (rInQ X.K false) := by
  intro pins s σ H x y v u Q I rx ry h
  obtain ⟨d, ds, hd, he, sd, se, q⟩ := h
  obtain ⟨as, r1⟩ := Dp.reads I d x v hd rx
  rcases he with he | he
  · obtain ⟨bs, r2⟩ := Dp.reads I (.list ds) y u he ry
    exact SeqAt.in_list_reads r2 r1 se (SeqAt.canLay_of_shaped sd) (room_in sd hr) ⟨.bl _, H, I, rfl, q⟩
  · obtain ⟨bs, r2⟩ := Dp.reads I (.tuple ds) y u he ry
    exact SeqAt.in_tuple_reads r2 r1 se (SeqAt.canLay_of_shaped sd) (room_in sd hr) ⟨.bl _, H, I, rfl, q⟩
theorem op_notInQ {k : Nat} (hr : Room k X.A) : OpR X (compareOp .NotIn) (rInQ X.K true) := by
  intro pins s σ H x y v u Q I rx ry h
  obtain ⟨d, ds, hd, he, sd, se, q⟩ := h
  obtain ⟨as, r1⟩ := Dp.reads I d x v hd rx
  rcases he with he | he
  · obtain ⟨bs, r2⟩ := Dp.reads I (.list ds) y u he ry
    exact SeqAt.notIn_list_reads r2 r1 se (SeqAt.canLay_of_shaped sd) (room_in sd hr) ⟨.bl _, H, I, rfl, q⟩
  · obtain ⟨bs, r2⟩ := Dp.reads I (.tuple ds) y u he ry
    exact SeqAt.notIn_tuple_reads r2 r1 se (SeqAt.canLay_of_shaped sd) (room_in sd hr) ⟨.bl _, H, I, rfl, q⟩
theorem od_in_of {op : Value → Value → Sem Value} {neg : Bool} (h : OpR X op (rInQ X.K neg)) : OpD X T op (opIn neg) := by
  refine ⟨fun {μ H F as ra rb x y} m r1 r2 {σ Q Wx} p => ⟨_, h, ?_⟩⟩
  unfold opIn at p
  split at p
  · rename_i d ds h1 h2
    split at p
    · rename_i hc
      exact ⟨d, ds, (see_Dq m r1 h1).dp, .inl (see_Dq m r2 h2).dp, hc.1, hc.2, p _ H F as (Ext.refl _ _) m (.bl _)⟩
    · exact p.elim
  · rename_i d ds h1 h2
    split at p
    · rename_i hc
      exact ⟨d, ds, (see_Dq m r1 h1).dp, .inr (see_Dq m r2 h2).dp, hc.1, hc.2, p _ H F as (Ext.refl _ _) m (.bl _)⟩
    · exact p.elim
  · exact p.elim
theorem od_in {k : Nat} (hr : Room k X.A) : OpD X T (compareOp .In) (opIn false) := od_in_of (op_inQ hr)
theorem od_notIn {k : Nat} (hr : Room k X.A) : OpD X T (compareOp .NotIn) (opIn true) := od_in_of (op_notInQ hr)

/-! ### built-in functions -/
theorem relws1 {K : PySem.W.Frag} {F : Hp} {as : List Addr} {r : R} {vs : List V} (h : RelWs K F as [r] vs) : ∃ v, vs = [v] ∧ RelW K F as r v := by
  cases h with
  | cons a b => cases b; exact ⟨_, rfl, a⟩
theorem relws2' {K : PySem.W.Frag} {F : Hp} {as : List Addr} {r r' : R} {vs : List V} (h : RelWs K F as [r, r'] vs) : ∃ v v', vs = [v, v'] ∧ RelW K F as r v ∧ RelW K F as r' v' := by
  cases h with
  | cons a b =>
    cases b with
    | cons c d => cases d; exact ⟨_, _, rfl, a, c⟩
/-- a built-in function of one value -/
def one (f : R → Mem → Rs R) (rs : List R) (μ : Mem) : Rs R := match rs with
  | [r] => f r μ
  | _ => .no
theorem cd_one {f : Value} {o : R → Mem → Rs R} (h : ∀ {μ : Mem} {H F : Hp} {as : List Addr} {r : R} {x : V}, Mm X.K T μ H F as → RelW X.K F as r x → ∀ {σ : L2.St} {Q : VK} {Wx : WX}, PostE X.K X.mg T σ F as Q Wx (o r μ) → ∃ q, CallR X f q ∧ q [x] H Q) : CallD X T f (one o) := by
  refine ⟨fun {μ H F as rs xs} m rel {σ Q Wx} p => ?_⟩
  unfold one at p
  split at p
  · obtain ⟨v, rfl, r1⟩ := relws1 rel
    exact h m r1 p
  · exact p.elim
def fLen (r : R) (μ : Mem) : Rs R := match r with
  | .c n => match μ[n]? with
    | some (.lst ds) => .ok (.d (.int (ds.length : Nat))) μ
    | some (.frz ds) => .ok (.d (.int (ds.length : Nat))) μ
    | some (.dk kvs) => .ok (.d (.int (kvs.length : Nat))) μ
    | none => .no
  | .d (.list ds) => .ok (.d (.int (ds.length : Nat))) μ
  | .d (.tuple ds) => .ok (.d (.int (ds.length : Nat))) μ
  | .d (.str z) => if z.length ≤ sizeLine then .ok (.d (.int (z.length : Nat))) μ else .no
  | _ => .no
theorem cd_len : CallD X T (.builtin "len") (one fLen) := by
  refine cd_one fun {μ H F as r x} m rel {σ Q Wx} p => ?_
  cases r with
  | c n =>
    obtain ⟨a, ha, rfl⟩ := rel
    unfold fLen at p
    cases hc : μ[n]? with
    | none => simp only [hc] at p; exact p.elim
    | some c =>
      have q := m.cell n c a hc ha
      cases c with
      | lst ds => simp only [hc] at p; obtain ⟨_, vs, h1, h2⟩ := q; exact ⟨_, call_len_seq, a, vs, rfl, .inl (.inl (.inl h1)), by rw [h2.length]; exact p _ H F as (Ext.refl _ _) m (.int _)⟩
      | frz ds => simp only [hc] at p; obtain ⟨vs, h1, h2⟩ := q; exact ⟨_, call_len_seq, a, vs, rfl, .inl (.inl (.inl (m.same _ _ h1))), by rw [h2.length]; exact p _ H F as (Ext.refl _ _) m (.int _)⟩
      | dk kvs =>
        simp only [hc] at p
        obtain ⟨_, kv, h1, h2, h3⟩ := q
        have hl : kv.length = kvs.length := by have := congrArg List.length h2; simpa using this
        exact ⟨_, call_lenD, a, kv, rfl, h1, by rw [hl]; exact p _ H F as (Ext.refl _ _) m (.int _)⟩
  | d d0 =>
    cases d0 with
    | list ds =>
      obtain ⟨a, vs, rfl, hL, hd⟩ := see_list m rel (rfl : see (.d (.list ds)) μ = some (.list ds))
      exact ⟨_, call_len_seq, a, vs, rfl, .inl (.inl hL), by rw [hd.length]; exact p _ H F as (Ext.refl _ _) m (.int _)⟩
    | tuple ds =>
      obtain ⟨a, vs, rfl, hL, _, hd⟩ := see_tup m rel (rfl : see (.d (.tuple ds)) μ = some (.tuple ds))
      exact ⟨_, call_len_seq, a, vs, rfl, .inr hL, by rw [hd.length]; exact p _ H F as (Ext.refl _ _) m (.int _)⟩
    | str z =>
      cases rel
      unfold fLen at p
      simp only at p
      split at p
      · rename_i hz; exact ⟨_, call_len_str, z, rfl, hz, p _ H F as (Ext.refl _ _) m (.int _)⟩
      · exact p.elim
    | none => exact p.elim
    | bool b => exact p.elim
    | int b => exact p.elim
    | dict b => exact p.elim
  | fl ds => exact p.elim
  | fk ds => exact p.elim
  | o b => exact p.elim
def fInt (r : R) (μ : Mem) : Rs R := match r with
  | .d (.int i) => .ok (.d (.int i)) μ
  | .d (.bool b) => .ok (.d (.int (if b then 1 else 0))) μ
  | .d (.str a) => match PySem.intText? a with
    | some n => if a.length ≤ 640 then .ok (.d (.int n)) μ else .no
    | none => .no
  | _ => .no
theorem cd_int : CallD X T (.type "int") (one fInt) := by
  refine cd_one fun {μ H F as r x} m rel {σ Q Wx} p => ?_
  cases r with
  | d d0 =>
    cases d0 with
    | int i => cases rel; exact ⟨_, call_int1, .inl ⟨i, rfl, p _ H F as (Ext.refl _ _) m (.int _)⟩⟩
    | bool i => cases rel; exact ⟨_, call_int1, .inr ⟨i, rfl, p _ H F as (Ext.refl _ _) m (.int _)⟩⟩
    | str z =>
      cases rel
      unfold fInt at p
      simp only at p
      split at p
      · rename_i n hn
        split at p
        · rename_i hz; exact ⟨_, call_int_str, z, n, rfl, hn, hz, p _ H F as (Ext.refl _ _) m (.int _)⟩
        · exact p.elim
      · exact p.elim
    | none => exact p.elim
    | list b => exact p.elim
    | tuple b => exact p.elim
    | dict b => exact p.elim
  | c n => exact p.elim
  | fl ds => exact p.elim
  | fk ds => exact p.elim
  | o b => exact p.elim
def fAbs (r : R) (μ : Mem) : Rs R := match r with
  | .d (.int i) => .ok (.d (.int (if i < 0 then -i else i))) μ
  | _ => .no
theorem cd_abs : CallD X T (.builtin "abs") (one fAbs) := by
  refine cd_one fun {μ H F as r x} m rel {σ Q Wx} p => ?_
  cases r with
  | d d0 =>
    cases d0 with
    | int i => cases rel; exact ⟨_, call_abs, i, rfl, p _ H F as (Ext.refl _ _) m (.int _)⟩
    | _ => exact p.elim
  | _ => exact p.elim
def fTup (r : R) (μ : Mem) : Rs R := match see r μ with
  | some (.list ds) => .ok (.d (.tuple ds)) μ
  | some (.tuple ds) => .ok (.d (.tuple ds)) μ
  | _ => .no
theorem cd_tuple : CallD X T (.type "tuple") (one fTup) := by
  refine cd_one fun {μ H F as r x} m rel {σ Q Wx} p => ?_
  unfold fTup at p
  split at p
  · rename_i ds hds
    obtain ⟨a, vs, rfl, hL, hd⟩ := see_list m rel hds
    refine ⟨_, call_tuple_of, a, vs, rfl, .inl ⟨.inl hL, fun q hq => ?_⟩⟩
    have hF := m.freeF hq
    exact p _ _ _ as (Ext.new hF) ((m.alloc hq).freeze hF upd_same (m.notin hq) (fun ps z => by cases z)) (.tup (.inl (.inl upd_same)) (DqAll_mono (same_new hF) hd))
  · rename_i ds hds
    obtain ⟨a, vs, rfl, hL, hF, hd⟩ := see_tup m rel hds
    exact ⟨_, call_tuple_of, a, vs, rfl, .inr ⟨hL, p _ H F as (Ext.refl _ _) m (.tup hF hd)⟩⟩
  · exact p.elim
def fList (r : R) (μ : Mem) : Rs R := match see r μ with
  | some (.list ds) => .ok (.fl ds) μ
  | some (.tuple ds) => .ok (.fl ds) μ
  | _ => .no
theorem cd_list : CallD X T (.type "list") (one fList) := by
  refine cd_one fun {μ H F as r x} m rel {σ Q Wx} p => ?_
  unfold fList at p
  split at p
  · rename_i ds hds
    obtain ⟨a, vs, rfl, hL, hd⟩ := see_list m rel hds
    exact ⟨_, call_list_of, a, vs, rfl, .inl (.inl hL), fun q hq => p _ _ F as (Ext.refl _ _) (m.alloc hq) ⟨q, vs, rfl, m.notin hq, m.freeF hq, upd_same, hd⟩⟩
  · rename_i ds hds
    obtain ⟨a, vs, rfl, hL, hF, hd⟩ := see_tup m rel hds
    exact ⟨_, call_list_of, a, vs, rfl, .inr hL, fun q hq => p _ _ F as (Ext.refl _ _) (m.alloc hq) ⟨q, vs, rfl, m.notin hq, m.freeF hq, upd_same, hd⟩⟩
  · exact p.elim
/-- all are truth values, ints, texts -/
def boolsOf : List D → Option (List Bool)
  | [] => some []
  | .bool b :: ds => (boolsOf ds).map (b :: ·)
  | _ => none
def intsOf : List D → Option (List Int)
  | [] => some []
  | .int b :: ds => (intsOf ds).map (b :: ·)
  | _ => none
def strsOf : List D → Option (List Str)
  | [] => some []
  | .str b :: ds => (strsOf ds).map (b :: ·)
  | _ => none
theorem boolsOf_eq : ∀ {ds : List D} {bs : List Bool}, boolsOf ds = some bs → ds = bs.map .bool
  | [], _, h => by cases h; rfl
  | d :: ds, bs, h => by
    cases d with
    | bool b =>
      cases e : boolsOf ds with
      | none => simp [boolsOf, e] at h
      | some cs => simp [boolsOf, e] at h; subst h; rw [boolsOf_eq e]; rfl
    | _ => cases h
theorem intsOf_eq : ∀ {ds : List D} {bs : List Int}, intsOf ds = some bs → ds = bs.map .int
  | [], _, h => by cases h; rfl
  | d :: ds, bs, h => by
    cases d with
    | int b =>
      cases e : intsOf ds with
      | none => simp [intsOf, e] at h
      | some cs => simp [intsOf, e] at h; subst h; rw [intsOf_eq e]; rfl
    | _ => cases h
theorem strsOf_eq : ∀ {ds : List D} {bs : List Str}, strsOf ds = some bs → ds = bs.map .str
  | [], _, h => by cases h; rfl
  | d :: ds, bs, h => by
    cases d with
    | str b =>
      cases e : strsOf ds with
      | none => simp [strsOf, e] at h
      | some cs => simp [strsOf, e] at h; subst h; rw [strsOf_eq e]; rfl
    | _ => cases h
theorem boolsOf_map : ∀ bs : List Bool, boolsOf (bs.map .bool) = some bs
  | [] => rfl
  | b :: bs => by simp [boolsOf, boolsOf_map bs]
theorem intsOf_map : ∀ bs : List Int, intsOf (bs.map .int) = some bs
  | [] => rfl
  | b :: bs => by simp [intsOf, intsOf_map bs]
theorem strsOf_map : ∀ bs : List Str, strsOf (bs.map .str) = some bs
  | [] => rfl
  | b :: bs => by simp [strsOf, strsOf_map bs]
def fBools (f : List Bool → Bool) (r : R) (μ : Mem) : Rs R := match see r μ with
  | some (.list ds) => match boolsOf ds with
    | some bs => .ok (.d (.bool (f bs))) μ
    | none => .no
  | _ => .no
theorem cd_all (hc : X.calm = true := by rfl) : CallD X T (.builtin "all") (one (fBools fun bs => bs.all id)) := by
  refine cd_one fun {μ H F as r x} m rel {σ Q Wx} p => ?_
  unfold fBools at p
  split at p
  · rename_i ds hds
    obtain ⟨a, vs, rfl, hL, hd⟩ := see_list m rel hds
    split at p
    · rename_i bs hb
      have := boolsOf_eq hb
      subst this
      have := hd.of_bools
      subst this
      exact ⟨_, cr_all hc, a, bs, rfl, .inl hL, p _ H F as (Ext.refl _ _) m (.bl _)⟩
    · exact p.elim
  · exact p.elim
theorem cd_any (hc : X.calm = true := by rfl) : CallD X T (.builtin "any") (one (fBools fun bs => bs.any id)) := by
  refine cd_one fun {μ H F as r x} m rel {σ Q Wx} p => ?_
  unfold fBools at p
  split at p
  · rename_i ds hds
    obtain ⟨a, vs, rfl, hL, hd⟩ := see_list m rel hds
    split at p
    · rename_i bs hb
      have := boolsOf_eq hb
      subst this
      have := hd.of_bools
      subst this
      exact ⟨_, cr_any hc, a, bs, rfl, .inl hL, p _ H F as (Ext.refl _ _) m (.bl _)⟩
    · exact p.elim
  · exact p.elim
def fSum (r : R) (μ : Mem) : Rs R := match see r μ with
  | some (.list ds) => match intsOf ds with
    | some ns => .ok (.d (.int ns.sum)) μ
    | none => .no
  | _ => .no
theorem cd_sum (hc : X.calm = true := by rfl) : CallD X T (.builtin "sum") (one fSum) := by
  refine cd_one fun {μ H F as r x} m rel {σ Q Wx} p => ?_
  unfold fSum at p
  split at p
  · rename_i ds hds
    obtain ⟨a, vs, rfl, hL, hd⟩ := see_list m rel hds
    split at p
    · rename_i bs hb
      have := intsOf_eq hb
      subst this
      have := hd.of_ints
      subst this
      exact ⟨_, cr_sum hc, a, bs, rfl, .inl hL, p _ H F as (Ext.refl _ _) m (.int _)⟩
    · exact p.elim
  · exact p.elim
/-- the greatest, the least of ints -/
def fBest (f : Int → Int → Int) (r : R) (μ : Mem) : Rs R := match see r μ with
  | some (.list ds) => match intsOf ds with
    | some (n :: ns) => .ok (.d (.int (ns.foldl f n))) μ
    | _ => .no
  | some (.tuple ds) => match intsOf ds with
    | some (n :: ns) => .ok (.d (.int (ns.foldl f n))) μ
    | _ => .no
  | _ => .no
/-- max, min of a list or a tuple of ints, by values -/
def rBest (K : PySem.W.Frag) (f : Int → Int → Int) : List V → Hp → VK → Prop := fun xs H Q => ∃ (a : Addr) (n : Int) (ns : List Int), xs = [.ref a] ∧ (SqL K H a ((n :: ns).map .int) ∨ SqT K H a ((n :: ns).map .int)) ∧ Q (.int (ns.foldl f n)) H
theorem reads_ints {h : Heap} : ∀ {us : List Value} {ns : List Int}, Vals (ns.map V.int) us → ∃ as, ReadsAll h us (ns.map PyData.int) as
  | [], [], _ => ⟨_, .nil⟩
  | u :: us, n :: ns, .cons r t => by
    obtain ⟨k, rfl⟩ := r
    obtain ⟨as, q⟩ := reads_ints (h := h) t
    exact ⟨_, .cons (.int _ _) q⟩
theorem alike_ints (ns : List Int) : PySem.W.AlikeAll (ns.map PyData.int) := by
  refine ⟨fun x hx y hy => ?_, fun x hx => ?_⟩
  · obtain ⟨i, _, rfl⟩ := List.mem_map.mp hx
    obtain ⟨j, _, rfl⟩ := List.mem_map.mp hy
    rfl
  · obtain ⟨i, _, rfl⟩ := List.mem_map.mp hx
    intro z; cases z
theorem depth_ints : ∀ ns : List Int, PyData.depthAll (ns.map PyData.int) = 0
  | [] => rfl
  | n :: ns => by rw [List.map_cons]; show max 0 (PyData.depthAll (ns.map PyData.int)) = 0; rw [depth_ints ns]; rfl
theorem reads_int_inv {h : Heap} {v : Value} {i : Int} {as : List Addr} (r : Reads h v (.int i) as) : ∃ t, v = .int i t := by
  cases r
  exact ⟨_, rfl⟩
theorem call_maxQ {k : Nat} (hr : Room k X.A) (hc : X.calm = true) : CallR X (.builtin "max") (rBest X.K max) := by
  intro pins s σ H vs us Q I r h
  obtain ⟨a, n, ns, rfl, hs, q⟩ := h
  rw [Vals.ref1 r]
  have hu : X.A.units + 1 + PyData.depthAll ((n :: ns).map PyData.int) < cLine := by
    rw [depth_ints]
    have := hr.un
    omega
  have fin : ∀ (v : Value) (h' : Heap) (tk : Nat) (bs : List Addr), Reads h' v (PySem.W.maxD (.int n) (ns.map PyData.int)) bs → (∀ b o, s.heap.get? b = some o → h'.get? b = some o) → EP X pins σ Q v { s with heap := h', toks := tk } := fun v h' tk bs hv hk => by
    rw [PySem.W.maxD_ints] at hv
    obtain ⟨t, rfl⟩ := reads_int_inv hv
    exact ⟨.int _, H, I.kept hk, ⟨_, rfl⟩, q⟩
  rcases hs with hs | hs
  · obtain ⟨its, rv, hl, _⟩ := I.list hs
    obtain ⟨as, ra⟩ := reads_ints (h := s.heap) rv
    exact PySem.W.max_list_data (I.ok.hd hc) hl.isList (by simpa using ra) (alike_ints (n :: ns)) hu fun i v h' tk bs _ hv hk => fin v h' tk bs hv hk
  · obtain ⟨its, rv, hl, _⟩ := I.tuple hs
    obtain ⟨as, ra⟩ := reads_ints (h := s.heap) rv
    exact PySem.W.max_tuple_data (I.ok.hd hc) (show s.heap.IsTuple a its.toArray from hl) (by simpa using ra) (alike_ints (n :: ns)) hu fun i v h' tk bs _ hv hk => fin v h' tk bs hv hk
theorem call_minQ {k : Nat} (hr : Room k X.A) (hc : X.calm = true) : CallR X (.builtin "min") (rBest X.K min) := by
  intro pins s σ H vs us Q I r h
  obtain ⟨a, n, ns, rfl, hs, q⟩ := h
  rw [Vals.ref1 r]
  have hu : X.A.units + 1 + PyData.depthAll ((n :: ns).map PyData.int) < cLine := by
    rw [depth_ints]
    have := hr.un
    omega
  have fin : ∀ (v : Value) (h' : Heap) (tk : Nat) (bs : List Addr), Reads h' v (PySem.W.minD (.int n) (ns.map PyData.int)) bs → (∀ b o, s.heap.get? b = some o → h'.get? b = some o) → EP X pins σ Q v { s with heap := h', toks := tk } := fun v h' tk bs hv hk => by
    rw [PySem.W.minD_ints] at hv
    obtain ⟨t, rfl⟩ := reads_int_inv hv
    exact ⟨.int _, H, I.kept hk, ⟨_, rfl⟩, q⟩
  rcases hs with hs | hs
  · obtain ⟨its, rv, hl, _⟩ := I.list hs
    obtain ⟨as, ra⟩ := reads_ints (h := s.heap) rv
    exact PySem.W.min_list_data (I.ok.hd hc) hl.isList (by simpa using ra) (alike_ints (n :: ns)) hu fun i v h' tk bs _ hv hk => fin v h' tk bs hv hk
  · obtain ⟨its, rv, hl, _⟩ := I.tuple hs
    obtain ⟨as, ra⟩ := reads_ints (h := s.heap) rv
    exact PySem.W.min_tuple_data (I.ok.hd hc) (show s.heap.IsTuple a its.toArray from hl) (by simpa using ra) (alike_ints (n :: ns)) hu fun i v h' tk bs _ hv hk => fin v h' tk bs hv hk
theorem cd_best {f : Int → Int → Int} {b : Value} (h : CallR X b (rBest X.K f)) : CallD X T b (one (fBest f)) := by
  refine cd_one fun {μ H F as r x} m rel {σ Q Wx} p => ⟨_, h, ?_⟩
  unfold fBest at p
  split at p
  · rename_i ds hds
    obtain ⟨a, vs, rfl, hL, hd⟩ := see_list m rel hds
    split at p
    · rename_i n ns hb
      have := intsOf_eq hb
      subst this
      have := hd.of_ints
      subst this
      exact ⟨a, n, ns, rfl, .inl (.inl hL), p _ H F as (Ext.refl _ _) m (.int _)⟩
    · exact p.elim
  · rename_i ds hds
    obtain ⟨a, vs, rfl, hL, _, hd⟩ := see_tup m rel hds
    split at p
    · rename_i n ns hb
      have := intsOf_eq hb
      subst this
      have := hd.of_ints
      subst this
      exact ⟨a, n, ns, rfl, .inr hL, p _ H F as (Ext.refl _ _) m (.int _)⟩
    · exact p.elim
  · exact p.elim
theorem cd_max1 {k : Nat} (hr : Room k X.A) (hc : X.calm = true := by rfl) : CallD X T (.builtin "max") (one (fBest max)) := cd_best (call_maxQ hr hc)
theorem cd_min1 {k : Nat} (hr : Room k X.A) (hc : X.calm = true := by rfl) : CallD X T (.builtin "min") (one (fBest min)) := cd_best (call_minQ hr hc)
end
end Em
set_option maxRecDepth 100000
namespace Em
open PySem PySem.Spec PyProof.Rows L2
section
variable {X : Cx} {T : Tb} {pos : Pos}
/-! ### isinstance of a built-in class -/
def tyName (r : R) (μ : Mem) : Option String := match r with
  | .d .none => some "NoneType"
  | .d (.bool _) => some "bool"
  | .d (.int _) => some "int"
  | .d (.str _) => some "str"
  | .d (.list _) => some "list"
  | .d (.tuple _) => some "tuple"
  | .c n => match μ[n]? with
    | some (.lst _) => some "list"
    | some (.frz _) => some "list"
    | some (.dk _) => some "dict"
    | none => none
  | _ => none
def cIsi (Ty : String) (c : EC) : EC := fun ρ μ => (c ρ μ).bind fun r μ1 => match tyName r μ1 with
  | some t => match kitB t Ty with
    | some b => .ok (.d (.bool b)) μ1
    | none => .no
  | none => .no
theorem tyName_ok {μ : Mem} {H F : Hp} {as : List Addr} {r : R} {x : V} {t : String} (m : Mm X.K T μ H F as) (h : RelW X.K F as r x) (e : tyName r μ = some t) : TyX X.K H x (.type t) := by
  cases r with
  | d d0 =>
    cases d0 with
    | none => cases h; cases e; exact .base .non
    | bool b => cases h; cases e; exact .base (.bl b)
    | int b => cases h; cases e; exact .base (.int b)
    | str b => cases h; cases e; exact .base (.str b)
    | list ds =>
      cases h with
      | lst h1 h2 =>
        cases e
        rcases Rd_mono m.same h1 with z | ⟨o, z⟩
        · exact .base (.lst z)
        · exact .base (.frz z)
    | tuple ds =>
      cases h with
      | tup h1 h2 =>
        cases e
        rcases same_tup m.same h1 with (z | ⟨o, z⟩) | ⟨o, its, n, z, hc, _⟩
        · exact .base (.tup z)
        · exact .fTuple z
        · exact .kTuple z hc
    | dict kvs => cases e
  | c n =>
    obtain ⟨a, ha, rfl⟩ := h
    unfold tyName at e
    cases hc : μ[n]? with
    | none => simp only [hc] at e; cases e
    | some c =>
      have q := m.cell n c a hc ha
      cases c with
      | lst ds => simp only [hc] at e; cases e; obtain ⟨_, vs, h1, _⟩ := q; exact .base (.lst h1)
      | frz ds => simp only [hc] at e; cases e; obtain ⟨vs, h1, _⟩ := q; exact .base (.lst (m.same _ _ h1))
      | dk kvs => simp only [hc] at e; cases e; obtain ⟨_, kv, h1, _⟩ := q; exact .base (.dK h1)
  | fl ds => exact h.elim
  | fk ds => exact h.elim
  | o b => cases e
theorem de_isi {a : Expr} {c : EC} {y : Str} {Ty : String} {p p2 : Pos} (h : DW X T a c) (hm : X.mg "isinstance" = none) (hmy : X.mg y = none) (hvy : bootBuiltins y = some (.type Ty)) (hg : Gl X "isinstance" := by rfl) (hgy : Gl X y := by rfl) (hny : y ≠ "__name__" := by decide) (hdy : (y == ("__debug__" : Str)) = false := by decide)
    (hs1 : starEach [a, .Name y p2] X.env = (false, eval a X.env) :: starEach [.Name y p2] X.env := by rfl) (hs2 : starEach [.Name y p2] X.env = (false, eval (.Name y p2) X.env) :: starEach [] X.env := by rfl) (hpl : (backTo pos (starEach [.Name y p2] X.env)).any (·.1) = false := by rfl) :
    DE X T (.Call (.Name "isinstance" p) [a, .Name y p2] [] pos) (cIsi Ty c) := by
  refine ⟨fun {ρ μ σ H F as} m en {Q Wx} tk pp => ve_of (pe_callB (allC (f := .builtin "isinstance")) hg hm (by decide +kernel) (pa_cons pe_self (pa_cons (pe_bltn (v := .ty Ty) hgy hmy hvy rfl hny hdy) pa_nil hs2) hs1) (by decide) (by decide) hs1 hpl) ?_⟩
  refine h.run m en tk (w_bind (P := PostE X.K X.mg T σ F as Q Wx) (fun _ _ p => p) (fun p => p) pp fun r μ1 p1 v H1 F1 as1 e1 m1 r1 => ?_)
  split at p1
  · rename_i t ht
    split at p1
    · rename_i b hb
      exact ⟨_, call_isi, v, .ty Ty, .type t, .type Ty, b, rfl, .ty Ty, tyName_ok m1 r1 ht, kit_ty hb, p1 _ H1 F1 as1 e1 m1 (.bl b)⟩
    · exact p1.elim
  · exact p1.elim

/-! ### methods of lists -/
def mAppend (r : R) (rs : List R) (μ : Mem) : Rs R := match r, rs with
  | .c n, [.d x] => match μ[n]? with
    | some (.lst ds) => if ds.length < sizeLine then .ok (.d .none) (μ.set n (.lst (ds ++ [x]))) else .no
    | _ => .no
  | _, _ => .no
theorem md_append : MtD X T "list" "list.append" mAppend := by
  refine ⟨fun {μ H F as r rs x xs} m rel rels {σ Q Wx} p => ?_⟩
  unfold mAppend at p
  split at p
  · rename_i n y
    obtain ⟨v, rfl, r1⟩ := relws1 rels
    obtain ⟨a, ha, rfl⟩ := rel
    split at p
    · rename_i ds hc
      obtain ⟨hF, vs, h1, h2⟩ := m.cell n _ a hc ha
      split at p
      · rename_i hl
        exact ⟨_, mt_append, a, vs, v, rfl, rfl, h1, by rw [h2.length]; exact hl, p _ _ F as (Ext.refl _ _) (m.write (c' := .lst (ds ++ [y])) ha hF h1 (fun ps z => by cases z) (fun φ z => by cases z) ⟨hF, _, upd_same, h2.append (.cons r1 .nil)⟩) .non⟩
      · exact p.elim
    · exact p.elim
  · exact p.elim
/-- extend by a list, wherever it stands -/
def rExtendR : V → List V → Hp → VK → Prop := fun x vs H Q => ∃ l b xs zs, x = .ref l ∧ vs = [.ref b] ∧ H l = some (.lst xs) ∧ Rd H b (.lst zs) ∧ xs.length + zs.length ≤ sizeLine ∧ Q .non (upd H l (.lst (xs ++ zs)))
theorem mt_extendR : MtR X "list.extend" rExtendR := by
  intro pins s σ H x vs v us Q I rx rv h
  obtain ⟨l, b, xs, zs, rfl, rfl, hH, hB, hz, q⟩ := h
  rcases hB with hB | ⟨o, hB⟩
  · exact mt_extend pins s σ H _ _ v us Q I rx rv ⟨l, b, xs, zs, rfl, rfl, hH, hB, hz, q⟩
  · cases rx
    obtain ⟨u, rfl, ru⟩ := rv.one
    cases ru
    obtain ⟨_, its, n, r, hl, e⟩ := I.lstM hH
    obtain ⟨_, its2, n2, r2, e2⟩ := Rd.ok (.inr ⟨o, hB⟩) I.hok
    have l2 := r2.length
    have fit : its.toArray.size + its2.toArray.size ≤ sizeLine := by rw [List.size_toArray, List.size_toArray]; omega
    have c1 : ¬ (!its.toArray.isEmpty && Builtin.List.listTooLong (its.toArray.size + its2.toArray.size)) = true := by
      rw [notLongL fit, Bool.and_false]; exact Bool.false_ne_true
    refine call_meets F.slot_list_extend ⟨_, e, rfl⟩ F.entry_list_extend (F.args_list_extend_2 _ _) (AutoSeq1.list_extend_list_list_0 l its.toArray n b its2.toArray n2 c1 (by rw [List.size_toArray]; omega) (by omega)) ⟨e, e2, ?_⟩
    exact ⟨.non, _, I.lset (its' := its ++ its2) hH e (by simp) (r.append r2) (by rw [List.length_append]; omega), rfl, q⟩
def mExtend (r : R) (rs : List R) (μ : Mem) : Rs R := match r, rs with
  | .c n, [y] => match μ[n]?, see y μ with
    | some (.lst ds), some (.list es) => if ds.length + es.length ≤ sizeLine then .ok (.d .none) (μ.set n (.lst (ds ++ es))) else .no
    | _, _ => .no
  | _, _ => .no
theorem md_extend : MtD X T "list" "list.extend" mExtend := by
  refine ⟨fun {μ H F as r rs x xs} m rel rels {σ Q Wx} p => ?_⟩
  unfold mExtend at p
  split at p
  · rename_i n y
    obtain ⟨v, rfl, r1⟩ := relws1 rels
    obtain ⟨a, ha, rfl⟩ := rel
    split at p
    · rename_i ds es hc he
      obtain ⟨hF, vs, h1, h2⟩ := m.cell n _ a hc ha
      obtain ⟨b, ws, rfl, q1, q2⟩ := see_list m r1 he
      split at p
      · rename_i hl
        exact ⟨_, mt_extendR, a, b, vs, ws, rfl, rfl, h1, q1, by rw [h2.length, q2.length]; exact hl, p _ _ F as (Ext.refl _ _) (m.write (c' := .lst (ds ++ es)) ha hF h1 (fun ps z => by cases z) (fun φ z => by cases z) ⟨hF, _, upd_same, h2.append q2⟩) .non⟩
      · exact p.elim
    · exact p.elim
  · exact p.elim
/-! ### methods of texts -/
def mJoin (r : R) (rs : List R) (μ : Mem) : Rs R := match r, rs with
  | .d (.str a), [y] => match see y μ with
    | some (.list ds) => match strsOf ds with
      | some ys => if (ys.map (·.length)).sum + ys.length * a.length ≤ 16777216 then .ok (.d (.str (Txt.join a ys))) μ else .no
      | none => .no
    | some (.tuple ds) => match strsOf ds with
      | some ys => if (ys.map (·.length)).sum + ys.length * a.length ≤ 16777216 then .ok (.d (.str (Txt.join a ys))) μ else .no
      | none => .no
    | _ => .no
  | _, _ => .no
theorem md_join : MtD X T "str" "str.join" mJoin := by
  refine ⟨fun {μ H F as r rs x xs} m rel rels {σ Q Wx} p => ?_⟩
  unfold mJoin at p
  split at p
  · rename_i a y
    obtain ⟨v, rfl, r1⟩ := relws1 rels
    cases rel
    split at p
    · rename_i ds hds
      obtain ⟨b, ws, rfl, q1, q2⟩ := see_list m r1 hds
      split at p
      · rename_i ys hy
        have := strsOf_eq hy
        subst this
        have := q2.of_strs
        subst this
        split at p
        · rename_i hl
          exact ⟨_, mt_join, a, b, ys, rfl, rfl, .inl (.inl q1), hl, p _ H F as (Ext.refl _ _) m (.str _)⟩
        · exact p.elim
      · exact p.elim
    · rename_i ds hds
      obtain ⟨b, ws, rfl, q1, _, q2⟩ := see_tup m r1 hds
      split at p
      · rename_i ys hy
        have := strsOf_eq hy
        subst this
        have := q2.of_strs
        subst this
        split at p
        · rename_i hl
          exact ⟨_, mt_join, a, b, ys, rfl, rfl, .inr q1, hl, p _ H F as (Ext.refl _ _) m (.str _)⟩
        · exact p.elim
      · exact p.elim
    · exact p.elim
  · exact p.elim
def mSplit (r : R) (rs : List R) (μ : Mem) : Rs R := match r, rs with
  | .d (.str a), [.d (.str b)] => if (b.length == 0) = false ∧ a.length + 2 ≤ sizeLine then .ok (.fl ((Txt.split a b).map .str)) μ else .no
  | _, _ => .no
theorem md_split : MtD X T "str" "str.split" mSplit := by
  refine ⟨fun {μ H F as r rs x xs} m rel rels {σ Q Wx} p => ?_⟩
  unfold mSplit at p
  split at p
  · rename_i a b
    obtain ⟨v, rfl, r1⟩ := relws1 rels
    cases rel
    cases r1
    split at p
    · rename_i hc
      exact ⟨_, mt_split, a, b, rfl, rfl, hc.1, hc.2, fun q hq => p _ _ F as (Ext.refl _ _) (m.alloc hq) ⟨q, _, rfl, m.notin hq, m.freeF hq, upd_same, DqAll.strs _⟩⟩
    · exact p.elim
  · exact p.elim

/-! ### a store to an item -/
def opStore (ro ri : R) (x : D) (μ : Mem) : Option Mem := match ro with
  | .c n => match μ[n]?, ri with
    | some (.lst ds), .d (.int i) => match ixN ds.length i with
      | some k => some (μ.set n (.lst (ds.set k x)))
      | none => none
    | _, _ => none
  | _ => none
def sStore (co ci ce : EC) : SC := fun ρ μ => (cD ce ρ μ).thenS ρ fun rx μ1 => (co ρ μ1).thenS ρ fun ro μ2 => (ci ρ μ2).thenS ρ fun ri μ3 => match rx with
  | .d x => match opStore ro ri x μ3 with
    | some μ4 => .nx ρ μ4
    | none => .no
  | _ => .no
def rAllSet (X : Cx) : TSet := fun o i v H Q => ∃ t, PSet X t ∧ t o i v H Q
theorem allSet : PSet X (rAllSet X) := fun pins s σ H o i v ov iv u Q I r1 r2 r3 ⟨t, h, q⟩ => h pins s σ H o i v ov iv u Q I r1 r2 r3 q
theorem ds_store {o i e : Expr} {co ci ce : EC} {p2 : Pos} (ho : DW X T o co) (hi : DW X T i ci) (he : DE X T e ce) (hs : swapsWithSole [.Subscript o i p2] e pos.line X.env = pure false := by rfl) (hw : swappedStores [.Subscript o i p2] e X.env = pure none := by rfl)
    (h1 : (assignEach [.Subscript o i p2] X.env).map (·.2) = [assign (.Subscript o i p2) X.env] := by rfl)
    (ha : ∀ v, assign (.Subscript o i p2) X.env v = (do
      let ov ← holding [v] (eval o X.env)
      let iv ← holding [v, ov] (eval i X.env)
      standAt p2
      holding [v, ov, iv] (setItem ov iv v)
      release [v, ov, iv] []) := by intro _; rfl) : DS X T (.Assign [.Subscript o i p2] e pos) (sStore co ci ce) := by
  refine ⟨fun {ρ μ σ H F as} m en {D Wx} tk p => vs_of (ps_asg pe_self (pg_sub pe_self pe_self allSet ha) hs hw h1) ?_⟩
  refine he.data.run m en tk (w_then en p fun rx μ1 p1 v H1 F1 as1 e1 m1 r1 => ?_)
  have en1 := en.mono e1
  refine ho.run m1 en1 tk (w_then en1 (p1.ext e1) fun ro μ2 p2 ov H2 F2 as2 e2 m2 r2 => ?_)
  have en2 := en1.mono e2
  refine hi.run m2 en2 tk (w_then en2 (p2.ext e2) fun ri μ3 p3 iv H3 F3 as3 e3 m3 r3 => ?_)
  have en3 := en2.mono e3
  have rx3 := r1.mono (e2.trans e3)
  have ro3 := r2.mono e3
  have p4 := p3.ext e3
  cases rx with
  | d x =>
    simp only at p4
    cases hst : opStore ro ri x μ3 with
    | none => rw [hst] at p4; exact p4.elim
    | some μ4 =>
      rw [hst] at p4
      unfold opStore at hst
      split at hst
      · rename_i n
        obtain ⟨a, haa, rfl⟩ := ro3
        split at hst
        · rename_i ds i hc
          split at hst
          · rename_i k hk
            cases hst
            cases r3
            obtain ⟨hF, vs, h1, h2⟩ := m3.cell n _ a hc haa
            exact ⟨_, set_list, a, vs, i, k, rfl, rfl, h1, by rw [h2.length]; exact hk, p4 σ _ F3 as3 (Ext.refl _ _) (m3.write (c' := .lst (ds.set k x)) haa hF h1 (fun ps z => by cases z) (fun φ z => by cases z) ⟨hF, _, upd_same, h2.set rx3 k⟩) en3⟩
          · cases hst
        · cases hst
      · cases hst
  | c n => exact p4.elim
  | fl ds => exact p4.elim
  | fk ds => exact p4.elim
  | o b => exact p4.elim

/-! ### raise -/
/-- an own exception class without an __init__ of its own -/
structure Exc0 (K : PySem.W.Frag) (mg : Str → Option Value) (x : Str) : Prop where
  ex : ∃ C : Addr, mg x = some (.ref C) ∧ PySem.W.excIn K C [.type "ValueError", .type "Exception", .type "BaseException", .type "object"] "ValueError.__new__" = true ∧ PySem.W.keepIn K (.ref C) = true ∧
    PySem.W.subIn K (.ref C) (.type "BaseException") = some true ∧ PySem.W.typeIn K (.ref C) = some (.type "type")
theorem pmk_own0 {C : Addr} {bmB : List Value} {B newId initId : String} {x : Str} {p : Pos} (F : ExcBaseFacts B newId initId bmB) (q : PySem.W.excIn X.K C bmB newId = true) (gC : X.mg x = some (.ref C))
    (kC : PySem.W.keepIn X.K (.ref C) = true) (r : Raises X (.ref C)) (hg : Gl X x) (hdb : (x == ("__debug__" : Str)) = false := by decide) : PMk X (.Call (.Name x p) [] [] pos) (fun _ H Q => Q (.ref C) none H) := by
  intro pins s σ H Q I h
  refine wpAny_Call_Name_kw (ld_glob I hg gC ?_ hdb)
  refine PySem.W.callWith_K0 I.kIn kC ?_
  obtain ⟨bm, N, nm, qn, bs, hdct, sn, sub, ab, col, dd, k0, k1, k2, k3, k5, mN, hC, hN, hni, TT⟩ := exc_obj I.kIn q
  exact wpAny_call_exc_subT F TT hC hN hni (fun h' e hm => mk_of I hm r h (I.hok.gone hm.new)) (Nat.zero_le _)
def sRaise (x : Str) : SC := fun ρ μ => .ex ⟨x, none⟩ ρ μ
theorem ds_raise {x : Str} {p p2 : Pos} (E : Exc0 X.K X.mg x) (hc : X.calm = true := by rfl) (hg : Gl X x := by rfl) (hdb : (x == ("__debug__" : Str)) = false := by decide) : DS X T (.Raise (some (.Call (.Name x p) [] [] p2)) none pos) (sRaise x) := by
  obtain ⟨C, gC, q, kC, b, t⟩ := E.ex
  refine ⟨fun {ρ μ σ H F as} m en {D Wx} tk pp => vs_of (ps_raise hc tk (pmk_own0 PySem.F.excBase_ValueError q gC kC (raises_own b t) hg hdb)) ?_⟩
  exact pp (.ref C) none σ H F as (Ext.refl _ _) m en ⟨C, rfl, gC, rfl⟩
end
end Em
set_option maxRecDepth 100000
namespace Em
open PySem PySem.Spec PyProof.Rows L2
/-- which class is under which, as the program's own classes stand -/
def SubOk (K : PySem.W.Frag) (mg : Str → Option Value) (sub : Str → Str → Option Bool) : Prop := ∀ x h b, sub x h = some b → ∀ Cx Ch : Addr, mg x = some (.ref Cx) → mg h = some (.ref Ch) → PySem.W.exmOne K (.ref Cx) (.ref Ch) = some b
def noX : Out → Out
  | .ex _ _ _ => .no
  | o => o
def pick (sub : Str → Str → Option Bool) : List (Str × SC) → Ex → SC
  | [], x => fun ρ μ => .ex x ρ μ
  | (h, s) :: r, x => fun ρ μ => match sub x.cls h with
    | some true => noX (s ρ μ)
    | some false => pick sub r x ρ μ
    | none => .no
def sTry (sub : Str → Str → Option Bool) (cb : SC) (hs : List (Str × SC)) : SC := fun ρ μ => match cb ρ μ with
  | .ex x ρ' μ' => pick sub hs x ρ' μ'
  | o => o
section
variable {X : Cx} {T : Tb} {pos : Pos}
inductive DH (X : Cx) (T : Tb) : List ExceptHandler → List (Str × SC) → Prop
  | nil : DH X T [] []
  | cons {x : Str} {b₀ : Stmt} {suite : List Stmt} {np pos' : Pos} {hds : List ExceptHandler} {l : List (Str × SC)} {cs : SC} (hc : ∃ C : Addr, X.mg x = some (.ref C)) (hg : Gl X x) (hdb : (x == ("__debug__" : Str)) = false)
      (hsu : ∀ (a : Addr) (oe : Obj) (pn : List (Addr × Obj)), DB (X.suite a ((a, oe) :: pn)) T (b₀ :: suite) cs) (r : DH X T hds l) : DH X T (.ExceptHandler (some (.Name x np)) none (b₀ :: suite) pos' :: hds) ((x, cs) :: l)
theorem posts_noX {K : PySem.W.Frag} {mg : Str → Option Value} {F : Hp} {as : List Addr} {D : Ends} {Wx Wy : WX} {o : Out} (p : PostS K mg T F as D Wx (noX o)) : PostS K mg T F as D Wy o := by
  cases o with
  | ex x ρ μ => exact p.elim
  | nx ρ μ => exact p
  | rt r μ => exact p
  | bk ρ μ => exact p
  | ct ρ μ => exact p
  | no => exact p
theorem DH.run {sub : Str → Str → Option Bool} (hs : SubOk X.K X.mg sub) : ∀ {hds : List ExceptHandler} {l : List (Str × SC)}, DH X T hds l → ∃ L, HdsOk X hds L ∧ ∀ {x : Ex} {ρ : Vr} {μ : Mem} {σ : L2.St} {H F : Hp} {as : List Addr} {cls : Value} {d : Option Addr} {D : Ends} {Wx : WX}, Mm X.K T μ H F as → EnvR X.K ρ σ F as → XRel X.K X.mg F x cls d H → PostS X.K X.mg T F as D Wx (pick sub l x ρ μ) → wMany X.K Wx D L cls d σ H
  | _, _, .nil => ⟨[], .nil, fun {x ρ μ σ H F as cls d D Wx} m en xr p => p cls d σ H F as (Ext.refl _ _) m en xr⟩
  | _, _, .cons (x := h) (b₀ := b₀) (suite := suite) (cs := cs) hc hg hdb hsu r => by
    obtain ⟨L, h1, h2⟩ := DH.run hs r
    obtain ⟨C, hC⟩ := hc
    refine ⟨(.ref C, fun a cls d D σ H => ∀ (oe : Obj) (pn : List (Addr × Obj)), Zc cls d oe → (∃ vs, oe.data = .fields vs) → VB (X.suite a ((a, oe) :: pn)) (b₀ :: suite) σ H D) :: L,
      .cons ⟨hg, hdb, .inl hC⟩ (fun a oe cls d pn z1 z2 => ⟨fun pins s σ H D I q => q oe pn z1 z2 pins s I⟩) h1, fun {x ρ μ σ H F as cls d D Wx} m en xr p => ?_⟩
    unfold pick at p
    obtain ⟨Cx, rfl, hx, xa⟩ := id xr
    cases hsb : sub x.cls h with
    | none => rw [hsb] at p; exact p.elim
    | some b =>
      rw [hsb] at p
      refine ⟨b, hs _ _ _ hsb Cx C hx hC, fun hb a _ oe pn _ _ => ?_, fun hb => ?_⟩
      · subst hb
        exact (hsu a oe pn).run m en takes0 (posts_noX p)
      · subst hb
        exact h2 m en xr p
theorem ds_try {sub : Str → Str → Option Bool} {body : List Stmt} {h₀ : ExceptHandler} {hds : List ExceptHandler} {cb : SC} {l : List (Str × SC)} (hs : SubOk X.K X.mg sub) (hb : ∀ pn xe, DB (X.tr pn xe) T body cb) (hh : DH X T (h₀ :: hds) l) (h1 : X.stack = X.env :: X.outer := by rfl) (h2 : X.env.frame = some X.env.locals := by rfl) :
    DS X T (.Try body (h₀ :: hds) [] [] pos) (sTry sub cb l) := by
  obtain ⟨L, g1, g2⟩ := hh.run hs
  refine ⟨fun {ρ μ σ H F as} m en {D Wx} tk p => vs_of (ps_try_many (tb := fun W D σ H => ∀ (pn : List (Addr × Obj)) (xe : Value → Shared → Prop), Takes (X.tr pn xe) W → VB (X.tr pn xe) body σ H D) h1 h2 tk (fun W pn xe tk' _ => ⟨fun pins s σ H D I q => q pn xe tk' pins s I⟩) g1) fun pn xe tk' => ?_⟩
  refine (hb pn xe).run m en tk' ?_
  unfold sTry at p
  cases hc : cb ρ μ with
  | nx ρ' μ' => rw [hc] at p; exact p
  | rt r μ' => rw [hc] at p; exact p
  | bk ρ' μ' => rw [hc] at p; exact p
  | ct ρ' μ' => rw [hc] at p; exact p
  | no => rw [hc] at p; exact p
  | ex x ρ' μ' =>
    rw [hc] at p
    exact fun cls d σ' H' F' as' e m' en' xr => g2 m' en' xr (PostS.ext p e)
end

/-! ### a lambda without parameters, handed to a def that calls it -/
/-- the base told anew -/
def Tb.at (T : Tb) (F : Hp) (as : List Addr) : Tb := ⟨T.tabs, F, as⟩
theorem Mm.rebase {K : PySem.W.Frag} {T : Tb} {μ : Mem} {H F F0 : Hp} {as as0 : List Addr} (m : Mm K T μ H F as) (b : Ext F0 as0 F as) : Mm K (T.at F0 as0) μ H F as := ⟨m.same, m.ntb, m.nd, m.len, m.cell, m.tabs, b⟩
theorem Mm.unbase {K : PySem.W.Frag} {T : Tb} {μ : Mem} {H F F0 : Hp} {as as0 : List Addr} (m : Mm K (T.at F0 as0) μ H F as) (b : Ext T.F0 T.as0 F as) : Mm K T μ H F as := ⟨m.same, m.ntb, m.nd, m.len, m.cell, m.tabs, b⟩
abbrev SX' (X : Cx) (Ng : List Str) (x : Str) (sg : Scope) (g : Addr) (cdg : Value) (s : Shared) (H : Hp) : Cx := (cxOf L2.CX0 X.prog X.w X.K X.mg X.base Ng x sg g cdg X.A X.stack s H L2.E0).nox
def cThunk (i : Nat) (f : Addr) (th : Mem → Rs R) : EC := fun ρ μ => match ρ[i]? with
  | some (some (.o a)) => if a = f then th μ else .no
  | _ => .no
section
variable {X : Cx} {T : Tb} {pos : Pos} {pins : List (Addr × Obj)} {σ : L2.St} {H : Hp} {s : Shared}
/-- x() in the def that got the lambda; what it lets out is asked of this very state -/
theorem lam_act {Ng : List Str} {qg : Str} {sg : Scope} {g f c' : Addr} {cdg pm ctv : Value} {params : Arguments} {body : Expr} {scope : Scope} {k i : Nat} {a : Str} {pn : List (Addr × Obj)} {xe : Value → Shared → Prop} {E : XK} {p1 p2 : Pos} {σZ : L2.St} {HZ : Hp} {Q : VK}
    (I : Inv X pins σ H s) (L : LamX.LamS X.env.scope scope) (hf : s.heap.get? f = some (PySem.W.kla_obj "<lambda>" (X.env.qual ++ "<lambda>") params body scope (cloFrom X.env.cells scope.names []) pm c' ctv)) (hfn : H f = none) (hfr : f ∉ frs X.stack)
    (hbind : bindArgs (PySem.W.kla_fn "<lambda>" (X.env.qual ++ "<lambda>") params body scope (cloFrom X.env.cells scope.names []) pm (.ref c') ctv) ⟨[], []⟩ = pure [])
    (out : ∀ s1 e s', L2.CX X.prog X.w ((SX' X Ng qg sg g cdg s H).tr pn xe).stack HZ s1 E e s' → ∀ pinsZ, Inv ((SX' X Ng qg sg g cdg s H).tr pn xe) pinsZ σZ HZ s1 → xe e s') (hr : Room (k + 1) (X.A.deeper (envOfC qg sg s.heap.objs.size g cdg)))
    (hbody : ∀ (A : Around) (outer : List Env) (s1 : Shared), Room k (A.deeper (LamX.lamEnv X scope s1.heap.objs.size f c')) → VE (LamX.lamCx X A outer s1 HZ E scope f c') body σ HZ Q)
    (hN : Ng[i]? = some a) (hv : Vis sg a) (hs : σZ[i]? = some (some (.ref f))) (hc : HZ c' = some (LamX.CodeO c' (X.env.qual ++ "<lambda>"))) (hd : (a == ("__debug__" : Str)) = false := by decide) (hcd : (a == ("__classdict__" : Str)) = false := by decide) :
    VE ((SX' X Ng qg sg g cdg s H).tr pn xe) (.Call (.Name a p1) [] [] p2) σZ HZ Q := by
  intro pinsZ sZ IZ
  have nameRun := (pe_var (X := (SX' X Ng qg sg g cdg s H).tr pn xe) (pos := p1) (i := i) hN hv hd hcd).run pinsZ sZ σZ HZ (fun v H1 => v = .ref f ∧ H1 = HZ) IZ ⟨.ref f, hs, rfl, rfl⟩
  refine wpAny_Call_Name_kw (thn nameRun ?_)
  rintro u s1 ⟨v, H1, I1, ru, rfl, rfl⟩
  obtain rfl : u = Value.ref f := ru
  have held : s1.heap.get? f = some (PySem.W.kla_obj "<lambda>" (X.env.qual ++ "<lambda>") params body scope (cloFrom X.env.cells scope.names []) pm c' ctv) := I1.base.keep f _ hf hfn hfr (fun z => nomatch (show f ∈ ([] : List Addr) from z))
  refine PySem.W.callWith_F0 ⟨_, _, _, _, held⟩ ?_
  have un : Un (frs X.stack) [] H H1 s.heap s1.heap := I1.base
  obtain ⟨⟨oc, vs, t, hoc, hdc, hvc⟩, _, _⟩ := I1.hok c' _ hc
  have run : codeAny (model X.prog X.w) (X.A.deeper (envOfC qg sg s.heap.objs.size g cdg)) (.call (.ref f) ⟨[], []⟩) (CR (L2.CX X.prog X.w) (envOfC qg sg s.heap.objs.size g cdg :: X.stack) X.prog X.w H1 s1 Q E) s1 := by
    refine PySem.W.kla_callFunE hr.depth held rfl L.co L.gen rfl ⟨c', oc, vs, t, rfl, hoc, hdc, hvc⟩ ?_
    rw [hbind]
    refine wpAny_pure (wpAny_newFunctionEnv (fun y hy => (L.own y hy).2) (fun y hy => absurd hy (by simp)) ?_ L.kind)
    intro h₁ hns hsb
    refine ⟨I1.nolimit.fresh _ hsb, ?_⟩
    have kp : ∀ b o, s1.heap.get? b = some o → h₁.get? b = some o := fun b o e => hsb.extBut b o (Nat.ne_of_lt (Heap.lt_size e)) (Heap.get?_push_of_some _ e)
    have J : Inv (LamX.lamCx X (X.A.deeper (envOfC qg sg s.heap.objs.size g cdg)) (envOfC qg sg s.heap.objs.size g cdg :: X.stack) s1 H1 E scope f c') [] σ H1 { s1 with heap := h₁, toks := s1.toks + ([] : List (Str × Value)).length } := LamX.lam_start2 I L I1.env0 hr.hd un hns kp
    refine PySem.W.kla_codeExpr (wpAny_mono (hbody _ _ s1 (hr.deeper _) [] _ J) ?_ fun e s' hq => hq)
    rintro v s' ⟨w', H', J', rv, q⟩
    exact ⟨w', H', J'.os, J'.bare, J'.base, J'.hok, rv, q⟩
  refine wpAny_call (codeAny_mono run ?_)
  intro res s' hres
  match res, hres with
  | .error e, hres => exact out s1 e s' hres pinsZ I1
  | .ok (.ret u), hres => exact I1.after hres
  | .ok .next, hres => exact hres.elim
  | .ok .brk, hres => exact hres.elim
  | .ok .cont, hres => exact hres.elim
/-- what is known of the code object at c', too -/
def withO (F : Hp) (c' : Addr) (o : HO) : Hp := fun b => if b = c' then some o else F b
theorem Mm.code {K : PySem.W.Frag} {μ : Mem} {H1 F : Hp} {as : List Addr} {c' : Addr} {q : Str} (m : Mm K T μ H F as) (eN : LamX.ExtN H H1) (T1 : LamX.Tabs T.tabs H1) (hco : H1 c' = some (LamX.CodeO c' q)) :
    Mm K (T.at (withO F c' (LamX.CodeO c' q)) as) μ H1 (withO F c' (LamX.CodeO c' q)) as ∧ Ext F as (withO F c' (LamX.CodeO c' q)) as := by
  have up : ∀ b o, F b = some o → H1 b = some o := fun b o e => eN b o (m.same b o e) fun ps z => m.ntb b ps (z ▸ e)
  have sF : Same F (withO F c' (LamX.CodeO c' q)) := fun b o e => by
    unfold withO
    by_cases hb : b = c'
    · subst hb
      have := (up b o e).symm.trans hco
      cases this
      rw [if_pos rfl]
    · rw [if_neg hb]; exact e
  refine ⟨⟨fun b o e => ?_, fun b ps e => ?_, m.nd, m.len, fun n c a h1 h2 => ?_, T1, Ext.refl _ _⟩, Ext.eqv sF⟩
  · unfold withO at e
    by_cases hb : b = c'
    · subst hb; rw [if_pos rfl] at e; cases e; exact hco
    · rw [if_neg hb] at e; exact up b o e
  · unfold withO at e
    by_cases hb : b = c'
    · rw [if_pos hb] at e; exact LamX.codeO_ne ps (Option.some.inj e)
    · rw [if_neg hb] at e; exact m.ntb b ps e
  · have h3 := m.cell n c a h1 h2
    have live : ∀ {o : HO}, H a = some o → (∀ ps, o ≠ .tbl ps) → (∀ φ, o ≠ .ext φ) → F a = none → H1 a = some o ∧ withO F c' (LamX.CodeO c' q) a = none := fun {o} e n1 n2 hF => by
      have e1 := eN a o e n1
      refine ⟨e1, ?_⟩
      unfold withO
      rw [if_neg]
      · exact hF
      · intro z
        rw [z, hco] at e1
        exact n2 _ (Option.some.inj e1).symm
    cases c with
    | lst ds =>
      obtain ⟨hF, vs, e, d⟩ := h3
      obtain ⟨e1, e2⟩ := live e (fun ps z => by cases z) (fun φ z => by cases z) hF
      exact ⟨e2, vs, e1, DqAll_mono sF d⟩
    | frz ds => obtain ⟨vs, e, d⟩ := h3; exact ⟨vs, sF _ _ e, DqAll_mono sF d⟩
    | dk kvs =>
      obtain ⟨hF, vs, e, d1, d2⟩ := h3
      obtain ⟨e1, e2⟩ := live e (fun ps z => by cases z) (fun φ z => by cases z) hF
      exact ⟨e2, vs, e1, d1, DqAll_mono sF d2⟩
def cLam (ψ : (Mem → Rs R) → Mem → Rs R) (cb : EC) : EC := fun ρ μ => match ψ (fun μ' => cb ρ μ') μ with
  | .ok r μ' => .ok r μ'
  | _ => .no
/-- x(lambda: body), x a def of one parameter that calls it -/
theorem de_lam {x a : Str} {g c P : Addr} {k : Nat} {pg : Arguments} {bg : List Stmt} {sg : Scope} {dV kV doc pm cdv ct oc : Value} {an od : Option Addr} {osl : Array (Option Value)} {Ng : List Str}
    {params : Arguments} {body : Expr} {scope : Scope} {p lpos : Pos} {cbody : EC} {cb : Addr → (Mem → Rs R) → SC} {ψ : (Mem → Rs R) → Mem → Rs R} (hm : X.mg x = some (.ref g)) (hk : PySem.W.keepIn X.K (.ref g) = true)
    (lk : X.K.lookup g = some ⟨oc, od, .func (PySem.W.fnOf x x pg bg sg dV kV doc pm an cdv ct), osl⟩) (hcg : PySem.W.codeIn X.K cdv x = true) (hb : L2.Binds X.K (PySem.W.fnOf x x pg bg sg dV kV doc pm an cdv ct) [a] []) (Sg : FnScope Ng [a] sg) (hNg : Ng[0]? = some a) (hva : Vis sg a)
    (TB : LamX.TabB X.base X.mg c P) (hcode : X.env.code = .ref c) (hmT : (P, X.env.qual ++ "<lambda>") ∈ T.tabs) (hu : ∀ p ∈ T.tabs, p.1 = P → p.2 = X.env.qual ++ "<lambda>") (hr : Room (k + 2) X.A) (L : LamX.LamS X.env.scope scope) (hdef : defaultsOf params X.env = ([], []))
    (hbind : ∀ (q : Str) (cl : List (Str × Addr)) (pm cv ctv : Value), bindArgs (PySem.W.kla_fn "<lambda>" q params body scope cl pm cv ctv) ⟨[], []⟩ = pure [])
    (hbody : ∀ (A : Around) (outer : List PySem.Env) (s : Shared) (H : Hp) (E : XK) (f c' : Addr), Room k (A.deeper (LamX.lamEnv X scope s.heap.objs.size f c')) → DE (LamX.lamCx X A outer s H E scope f c') T body cbody)
    (hB : ∀ (s : Shared) (H : Hp) (f : Addr) (T' : Tb) (th : Mem → Rs R), Room (k + 1) (X.A.deeper (envOfC x sg s.heap.objs.size g cdv)) → (∀ pn xe p1 p2, DE ((SX' X Ng x sg g cdv s H).tr pn xe) T' (.Call (.Name a p1) [] [] p2) (cThunk 0 f th)) → DB (SX' X Ng x sg g cdv s H) T' bg (cb f th))
    (hψ : ∀ f th μ, expo μ.length (cb f th (some (.o f) :: List.replicate (Ng.length - 1) none) μ) = ψ th μ) (hg : Gl X x := by rfl)
    (hdb : (x == ("__debug__" : Str)) = false := by decide) (hd : (a == ("__debug__" : Str)) = false := by decide) (hcd : (a == ("__classdict__" : Str)) = false := by decide) :
    DE X T (.Call (.Name x p) [.Lambda params body scope lpos] [] pos) (cLam ψ cbody) := by
  refine ⟨fun {ρ μ σ H F as} m en {Q Wx} tk pp pins s I => ?_⟩
  refine wpAny_Call_Name_kw (ld_glob I hg hm ?_ hdb)
  refine PySem.W.callWith_K (h₀ := X.base) I.ok.mod.kin hk ?_ (by rfl) (by rfl)
  show wpAny _ _ (spliced ((false, eval (.Lambda params body scope lpos) X.env) :: backTo pos (starEach [] X.env))) _ _ s
  refine Calls.spliced_cons (LamX.lam_make2 I TB hcode hmT hu m.tabs hdef (L.has I.ok) ?_)
  intro f c' pm' ctv H1 s' I1 eN T1 hf hfn hfr hco
  refine Calls.spliced_nil ⟨I1.kIn, ?_⟩
  obtain ⟨m1, e1⟩ := m.code eN T1 hco
  have rc : codeAny (model X.prog X.w) X.A (.call (.ref g) ⟨[.ref f], []⟩) (CR L2.CX0 X.stack X.prog X.w H1 s' Q L2.E0) s' := by
    refine LamX.run_ofS (N := Ng) (ps := [a]) (us := [.ref f]) (vs := [.ref f]) lk hcg Sg hr I1.env0 (hb s' [.ref f] I1.kIn rfl) (.cons rfl .nil) rfl fun hr' => ⟨_, (pss_self (X := SX' X Ng x sg g cdv s' H1)).nox, ?_⟩
    have act : ∀ pn xe p1 p2, DE ((SX' X Ng x sg g cdv s' H1).tr pn xe) (T.at (withO F c' (LamX.CodeO c' (X.env.qual ++ "<lambda>"))) as) (.Call (.Name a p1) [] [] p2) (cThunk 0 f (fun μ' => cbody ρ μ')) := fun pn xe p1 p2 => by
      refine ⟨fun {ρZ μZ σZ HZ FZ asZ} mZ enZ {QZ WZ} tkZ ppZ => ?_⟩
      unfold cThunk at ppZ
      cases h0 : ρZ[0]? with
      | none => simp only [h0] at ppZ; exact ppZ.elim
      | some o =>
        cases o with
        | none => simp only [h0] at ppZ; exact ppZ.elim
        | some r =>
          simp only [h0] at ppZ
          cases r with
          | d x => exact ppZ.elim
          | c n => exact ppZ.elim
          | fl ds => exact ppZ.elim
          | fk ds => exact ppZ.elim
          | o b =>
            simp only at ppZ
            by_cases hbf : b = f
            · subst hbf
              rw [if_pos rfl] at ppZ
              obtain ⟨v0, g1, g2⟩ := enZ.2 0 _ h0
              cases g2
              have bZ := mZ.base
              refine lam_act (E := fun cls d H' => WZ cls d σZ H') I1 L hf hfn hfr (hbind _ _ _ _ _) (fun s1 e s'' hq pinsZ IZ => tkZ e s'' (XE.of_call IZ (fun cls d H' h => h) hq)) hr' (fun A outer s1 hr2 => ?_) hNg hva g1 (mZ.same _ _ (bZ.same _ _ (if_pos rfl))) hd hcd
              refine (hbody A outer s1 HZ _ b c' hr2).run (mZ.unbase ((m.base.trans e1).trans bZ)) (en.mono (e1.trans bZ)) (takes_of rfl rfl rfl rfl) ?_
              cases hth : cbody ρ μZ with
              | ok r μ' => rw [hth] at ppZ; exact fun v H' F' as' e m' rel => ppZ v H' F' as' e (m'.rebase (bZ.trans e)) rel
              | ex x μ' => rw [hth] at ppZ; exact fun cls d H' F' as' e m' rel => ppZ cls d H' F' as' e (m'.rebase (bZ.trans e)) rel
              | no => rw [hth] at ppZ; exact ppZ
            · rw [if_neg hbf] at ppZ; exact ppZ.elim
    have enS : EnvR X.K (some (.o f) :: List.replicate (Ng.length - 1) none) (L2.start Ng [V.ref f]) (withO F c' (LamX.CodeO c' (X.env.qual ++ "<lambda>"))) as := env_start (N := Ng) (ws := [.o f]) (.cons rfl .nil)
    refine (hB s' H1 f _ _ hr' act).run m1 enS (Wx := fun _ _ _ _ => False) takes0 (posts_body (H := H1) (E := fun _ _ _ => False) m1.len m1.base ?_)
    rw [hψ]
    unfold cLam at pp
    cases hq : ψ (fun μ' => cbody ρ μ') μ with
    | ok r μ' => rw [hq] at pp; exact fun v H' F' sm m' rel => pp v H' F' as (e1.trans (Ext.eqv sm)) (m'.unbase ((m.base.trans e1).trans (Ext.eqv sm))) rel
    | ex x μ' => rw [hq] at pp; exact pp.elim
    | no => rw [hq] at pp; exact pp.elim
  refine wpAny_call (codeAny_mono rc ?_)
  intro res s2 hres
  match res, hres with
  | .error e, hres => exact (show False from hres).elim
  | .ok (.ret u), hres => exact I1.after hres
  | .ok .next, hres => exact hres.elim
  | .ok .brk, hres => exact hres.elim
  | .ok .cont, hres => exact hres.elim
end
end Em
set_option maxRecDepth 100000
namespace Em
open PySem PySem.Spec PyProof.Rows L2
/-! ### a, b = x, y -/
section
variable {X : Cx} {T : Tb} {pos : Pos}
def sPar (i j : Nat) (ca cb : EC) : SC := fun ρ μ => (ca ρ μ).thenS ρ fun r μ1 => (cb ρ μ1).thenS ρ fun r' μ2 => .nx ((ρ.set i (some r)).set j (some r')) μ2
theorem ds_par (i j : Nat) {x y : Str} {a b : Expr} {ca cb : EC} {px py pt : Pos} {kt k2 pt2} (hN : X.N.Nodup) (h1 : DW X T a ca) (h2 : DW X T b cb) (hc : X.calm = true := by rfl) (hi : X.N[i]? = some x := by rfl) (hj : X.N[j]? = some y := by rfl) (hij : i ≠ j := by decide)
    (hx : X.env.scope.names.lookup x = some .local := by rfl) (hy : X.env.scope.names.lookup y = some .local := by rfl)
    (hw : swappedStores [.Tuple [.Name x px, .Name y py] kt pt] (.Tuple [a, b] k2 pt2) X.env = pure (some [x, y]) := by rfl)
    (hs : swapsWithSole [.Tuple [.Name x px, .Name y py] kt pt] (.Tuple [a, b] k2 pt2) pos.line X.env = pure false := by rfl)
    (hs1 : starEach [a, b] X.env = (false, eval a X.env) :: starEach [b] X.env := by rfl) (hs2 : starEach [b] X.env = (false, eval b X.env) :: starEach [] X.env := by rfl) :
    DS X T (.Assign [.Tuple [.Name x px, .Name y py] kt pt] (.Tuple [a, b] k2 pt2) pos) (sPar i j ca cb) := by
  refine ⟨fun {ρ μ σ H F as} m en {D Wx} tk p => vs_of (ps_par hc hN hi hj hij hx hy (pa_cons pe_self (pa_cons pe_self pa_nil hs2) hs1) hw hs) ?_⟩
  refine h1.run m en tk (w_then en p fun r μ1 p1 v H1 F1 as1 e1 m1 r1 => ?_)
  refine h2.run m1 (en.mono e1) tk (w_then (en.mono e1) (PostS.ext p1 e1) fun r' μ2 p2 v' H2 F2 as2 e2 m2 r2 => ?_)
  refine ⟨v, v', rfl, p2 _ H2 F2 as2 e2 m2 ((((en.mono e1).mono e2).set (r1.mono e2) i).set r2 j)⟩
end
/-! ### classes as a list -/
def subF (l : List (Str × Str × Bool)) : Str → Str → Option Bool := fun x h => (l.find? fun e => e.1 == x && e.2.1 == h).map fun e => e.2.2
theorem subF_ok {K : PySem.W.Frag} {mg : Str → Option Value} {l : List (Str × Str × Bool)} (h : ∀ e ∈ l, ∀ Cx Ch : Addr, mg e.1 = some (.ref Cx) → mg e.2.1 = some (.ref Ch) → PySem.W.exmOne K (.ref Cx) (.ref Ch) = some e.2.2) : SubOk K mg (subF l) := by
  intro x y b e Cx Ch h1 h2
  unfold subF at e
  cases hf : l.find? fun e => e.1 == x && e.2.1 == y with
  | none => rw [hf] at e; cases e
  | some z =>
    rw [hf] at e
    cases e
    have hm := List.mem_of_find?_eq_some hf
    have hp := List.find?_some hf
    simp only [Bool.and_eq_true, beq_iff_eq] at hp
    obtain ⟨p1, p2⟩ := hp
    subst p1
    subst p2
    exact h z hm Cx Ch h1 h2
theorem sub_one {K : PySem.W.Frag} {mg : Str → Option Value} {x y : Str} {b : Bool} {C D : Addr} (h1 : mg x = some (.ref C)) (h2 : mg y = some (.ref D)) (h : PySem.W.exmOne K (.ref C) (.ref D) = some b) : ∀ Cx Ch : Addr, mg x = some (.ref Cx) → mg y = some (.ref Ch) → PySem.W.exmOne K (.ref Cx) (.ref Ch) = some b := by
  intro Cx Ch g1 g2
  rw [h1] at g1; cases g1
  rw [h2] at g2; cases g2
  exact h
/-! ### a def whose code object is known -/
def lamQ (x : Str) : Str := (envOfC x { kind := .function, names := [], isGenerator := false, isCoroutine := false } 0 0 .none).qual ++ "<lambda>"
theorem fnC {P : Program} {w : World} {K : PySem.W.Frag} {mg : Str → Option Value} {base : Heap} {T : Tb} {x : Str} {st : Stmt} {f : Addr} {N ps : List Str} {k n : Nat} {body : SC} {dV kV doc pm ct oc cdv : Value} {an od : Option Addr} {osl : Array (Option Value)}
    (lk : K.lookup f = some ⟨oc, od, .func (PySem.W.fnOf x x (defArgs st) (defBody st) (defScope st) dV kV doc pm an cdv ct), osl⟩) (hcd : PySem.W.codeIn K cdv x = true) (S : FnScope N ps (defScope st)) (hn : ps.length = n)
    (h : ∀ (A : Around) (outer : List Env) (s : Shared) (H : Hp) (E : XK), Room k (A.deeper (envOfC x (defScope st) s.heap.objs.size f cdv)) → DB (cxOf (L2.CX P w) P w K mg base N x (defScope st) f cdv A outer s H E) T (defBody st) body) :
    FnOk P w K mg base (L2.CX P w) (k + 1) f (PySem.W.fnOf x x (defArgs st) (defBody st) (defScope st) dV kV doc pm an cdv ct) ps (spOf T K mg n (fnOf N.length body)) := by
  subst hn
  refine fn_of lk hcd S (fun vs H Q E q => q.1) fun A outer s H vs Q E hr hsp => ⟨_, pss_self, ?_⟩
  obtain ⟨hl, ws, μ, F, as, m, rel, p⟩ := hsp
  exact (h A outer s H E hr).run m (env_start rel) (takes_of rfl rfl rfl rfl) (posts_body (H := H) m.len m.base p)
/-! ### the end -/
theorem walk_ofL {l : PySem.W.OpenLaw} {n k : Nat} {q : Program} {loose : List Str} {XP : (Str → Option Value) → Heap → Prop} {YP : World → Heap → Prop} {d : DefRec} {K : Params → PySem.W.Frag} {x : Str}
    (hn : l.most = some n) (hn2 : n ≤ sizeLine) (hdf : d.params.defaults = []) (hr : Room k callerA) (hY : ∀ (w : World) (h : Heap), YP w h → (K w.params).In h)
    (F : ∀ (w : World) (mg mb : Str → Option Value) (fa : Addr) (h : Heap) (mean : ExcName → Option Value), Top q (PySem.W.looseW q loose) mean mg mb h → (K w.params).In h → mg d.name = some (.ref fa) → LamX.LawAtS l w (K w.params) (L2.CX l.prog w) k n x mg fa h) :
    PySem.W.WalkO q loose XP YP l.row.toRowW d [] (fun f vs => PySem.call f vs) := by
  refine Att.attach_callB hn hdf fun w s₀ s₁ mg mb fa o pm cd doc a vs ns G Y ho hd hcd hmg hobj hints hlen hbits hg => ?_
  have KX := hY w _ Y
  obtain ⟨fd, cs, sp, hT, nT, C, hb, hsp, hF⟩ := F w mg mb fa _ _ G.T KX hmg
  exact LamX.law_callTs KX G.T.g G.T.b G.T.builtins G.T.nolimit hg hT nT C G.T.bmain hobj hints (Nat.le_trans hlen hn2) hr hF hb (fun H hH hS => hsp H a ns hlen hbits hH hS) fun H e s' c => by
    obtain ⟨_, _, _, _, _, _, _, _, _, _, _, _, z⟩ := c
    exact z
/-- the tables of one list of code objects, each with one name -/
def tb0 (tabs : List (Addr × Str)) : Tb := ⟨tabs, fun _ => none, []⟩
def noTb (H : Hp) : Hp := fun b => match H b with
  | some (.tbl _) => none
  | o => o
def noListK (K : PySem.W.Frag) : Bool := K.all fun e => match e.2.cls with
  | .type t => !(t == "list")
  | _ => true
theorem noListK_no {K : PySem.W.Frag} (h : noListK K = true) {a : Addr} {o : Obj} (e : K.lookup a = some o) : o.cls ≠ .type "list" := fun z => by
  have hm : (a, o) ∈ K := by
    clear h
    induction K with
    | nil => cases e
    | cons p K ih =>
      obtain ⟨b, o'⟩ := p
      rw [List.lookup_cons] at e
      by_cases hb : a = b
      · subst hb; simp at e; subst e; exact List.mem_cons_self
      · have : (a == b) = false := by simpa using hb
        rw [this] at e
        exact List.mem_cons_of_mem _ (ih e)
  have q := List.all_eq_true.mp h _ hm
  simp only [z] at q
  exact absurd q (by decide)
theorem dq_ints {K : PySem.W.Frag} {F : Hp} : ∀ ns : List Int, DqAll K F (ns.map V.int) (ns.map PyData.int)
  | [] => .nil
  | n :: ns => .cons (.int n) (dq_ints ns)
theorem tabIn_mk {K : PySem.W.Frag} {x : Str} {f c P : Addr} {oc oc2 : Value} {od od2 : Option Addr} {osl osl2 : Array (Option Value)} {fd : FuncData} {vs : Array Value} (a : PySem.W.nsIn K mainGlobals x = some (some (.ref f))) (l : K.lookup f = some ⟨oc, od, .func fd, osl⟩) (hc : fd.code = .ref c)
    (l2 : K.lookup c = some ⟨oc2, od2, .fields vs, osl2⟩) (hv : vs[11]? = some (.ref P)) : PySem.W.tabIn K x = some (c, P) := by
  unfold PySem.W.tabIn
  simp only [a, l, hc, l2, hv]
theorem sp_end {K : PySem.W.Frag} {mg : Str → Option Value} {φ : Fn} {tabs : List (Addr × Str)} {cs : List (Addr × Addr)} {H : Hp} {a : Addr} {ns : List Int} (hL : noListK K = true) (ht : ∀ p ∈ tabs, ∃ c, (c, p.1) ∈ cs) (hH : ∀ p ∈ cs, H p.2 = some (.tbl #[])) (hS : SqL K H a (ns.map V.int))
    (hφ : ∃ μ', φ [.d (.list (ns.map .int))] [] = .ok (.d (.bool true)) μ') : spOf (tb0 tabs) K mg 1 φ [.ref a] H (fun v _ => v = .bl true) fun _ _ _ => False := by
  obtain ⟨μ', e⟩ := hφ
  have same : Same (noTb H) H := fun b o q => by
    unfold noTb at q
    split at q
    · cases q
    · exact q
  have hS' : Rd (noTb H) a (.lst (ns.map V.int)) := by
    rcases hS with (h | ⟨o, h⟩) | ⟨o, its, n, h1, h2, _⟩
    · refine .inl ?_; unfold noTb; rw [h]
    · refine .inr ⟨o, ?_⟩; unfold noTb; rw [h]
    · exact absurd h2 (noListK_no hL h1)
  refine ⟨rfl, [.d (.list (ns.map .int))], [], noTb H, [], ⟨same, fun b ps q => ?_, List.nodup_nil, rfl, fun n c a h1 h2 => by simp at h1, fun p hp => ?_, ⟨fun b o q => (by have q' : (none : Option HO) = some o := q; cases q'), ⟨[], rfl⟩⟩⟩, .cons (.lst hS' (dq_ints ns)) .nil, ?_⟩
  · unfold noTb at q
    split at q
    · cases q
    · rename_i h; exact h ps q
  · obtain ⟨c, hc⟩ := ht p hp
    exact LamX.TabS.nil (hH _ hc)
  · rw [e]
    intro v H' F' s m r
    have r' : Dq K F' v (.bool true) := r
    cases r'
    rfl
end Em
set_option maxRecDepth 100000
namespace Em
open PySem PySem.Spec PyProof.Rows L2
/-! ### plain laws of the runs -/
/-- what an iterable gives, whatever the memory -/
structure ItmIs (j : Itm) (ds : List D) : Prop where
  len : ∀ μ, itLen j μ = some ds.length
  at_ : ∀ μ i, itAt j i μ = ds[i]?
theorem itm_list (ds : List D) : ItmIs (.seq (.d (.list ds))) ds := ⟨fun _ => rfl, fun _ _ => rfl⟩
theorem itm_tuple (ds : List D) : ItmIs (.seq (.d (.tuple ds))) ds := ⟨fun _ => rfl, fun _ _ => rfl⟩
def rngD (lo : Int) (n : Nat) : List D := (List.range n).map fun (i : Nat) => .int (lo + (i : Nat))
theorem itm_rng (lo : Int) (n : Nat) : ItmIs (.rng lo 1 n) (rngD lo n) := by
  refine ⟨fun _ => by simp [itLen, rngD], fun _ i => ?_⟩
  show (if i < n then some (PyData.int (lo + (i : Nat) * 1)) else none) = _
  unfold rngD
  rw [List.getElem?_map]
  by_cases h : i < n
  · rw [if_pos h, List.getElem?_range h]; simp
  · rw [if_neg h, List.getElem?_eq_none (by simp; omega)]; rfl
def signsD (s : Str) : List D := s.cps.toList.map fun c => .str ⟨#[c]⟩
theorem itm_txt (s : Str) : ItmIs (.txt s) (signsD s) := by
  refine ⟨fun _ => by simp [itLen, signsD], fun _ i => ?_⟩
  show (s.cps[i]?).map (fun c => PyData.str ⟨#[c]⟩) = _
  unfold signsD
  rw [List.getElem?_map]
  simp
def enmD (ds : List D) : List D := (List.range ds.length).zipWith (fun (i : Nat) d => .tuple [.int (i : Nat), d]) ds
theorem itm_enm (ds : List D) : ItmIs (.enm (.d (.list ds))) (enmD ds) := by
  refine ⟨fun _ => by simp [itLen, enmD, seeL, see], fun _ i => ?_⟩
  show (ds[i]?).map (fun d => PyData.tuple [.int (i : Nat), d]) = _
  unfold enmD
  rw [List.getElem?_zipWith]
  by_cases h : i < ds.length
  · rw [List.getElem?_range h, List.getElem?_eq_getElem h]; rfl
  · rw [List.getElem?_eq_none (by omega : ds.length ≤ i)]
    cases (List.range ds.length)[i]? <;> rfl
/-- for, by what holds from turn to turn -/
theorem forL_post {b : D → SC} {j : Itm} {ds : List D} (hj : ItmIs j ds) (I : Nat → Vr → Mem → Prop) (Post : Out → Prop)
    (step : ∀ i d ρ μ, ds[i]? = some d → I i ρ μ → (∃ ρ' μ', (b d ρ μ = .nx ρ' μ' ∨ b d ρ μ = .ct ρ' μ') ∧ I (i + 1) ρ' μ') ∨ (∃ ρ' μ', b d ρ μ = .bk ρ' μ' ∧ Post (.nx ρ' μ')) ∨ (∃ r μ', b d ρ μ = .rt r μ' ∧ Post (.rt r μ')) ∨ ∃ x ρ' μ', b d ρ μ = .ex x ρ' μ' ∧ Post (.ex x ρ' μ'))
    (fin : ∀ ρ μ, I ds.length ρ μ → Post (.nx ρ μ)) : ∀ k i ρ μ, i + k = ds.length → I i ρ μ → Post (forL b j k i ρ μ)
  | 0, i, ρ, μ, e, h => by
    unfold forL
    rw [if_pos (by rw [hj.len]; congr 1; omega)]
    have : i = ds.length := by omega
    subst this
    exact fin ρ μ h
  | k + 1, i, ρ, μ, e, h => by
    unfold forL
    have hi : i < ds.length := by omega
    rw [hj.at_, List.getElem?_eq_getElem hi]
    simp only
    rcases step i ds[i] ρ μ (List.getElem?_eq_getElem hi) h with ⟨ρ', μ', (q | q), h'⟩ | ⟨ρ', μ', q, h'⟩ | ⟨r, μ', q, h'⟩ | ⟨x, ρ', μ', q, h'⟩
    · rw [q]; exact forL_post hj I Post step fin k (i + 1) ρ' μ' (by omega) h'
    · rw [q]; exact forL_post hj I Post step fin k (i + 1) ρ' μ' (by omega) h'
    · rw [q]; exact h'
    · rw [q]; exact h'
    · rw [q]; exact h'
theorem for_inv {b : D → SC} {j : Itm} {ds : List D} (hj : ItmIs j ds) (I : Nat → Vr → Mem → Prop) (step : ∀ i d ρ μ, ds[i]? = some d → I i ρ μ → ∃ ρ' μ', b d ρ μ = .nx ρ' μ' ∧ I (i + 1) ρ' μ') {ρ : Vr} {μ : Mem} (h : I 0 ρ μ) :
    ∃ ρ' μ', forL b j ds.length 0 ρ μ = .nx ρ' μ' ∧ I ds.length ρ' μ' :=
  forL_post hj I (fun o => ∃ ρ' μ', o = .nx ρ' μ' ∧ I ds.length ρ' μ') (fun i d ρ μ e h => let ⟨ρ', μ', q, h'⟩ := step i d ρ μ e h; .inl ⟨ρ', μ', .inl q, h'⟩) (fun ρ μ h => ⟨ρ, μ, rfl, h⟩) ds.length 0 ρ μ (by omega) h
theorem sFor_eq {ci : Vr → Mem → Rs Itm} {g : GC} {b : SC} {ρ : Vr} {μ μ1 : Mem} {j : Itm} {ds : List D} (hj : ItmIs j ds) (h : ci ρ μ = .ok j μ1) : sFor ci g b ρ μ = forL (stepS g b) j ds.length 0 ρ μ1 := by
  unfold sFor
  rw [h]
  simp only [Rs.thenS, hj.len]
/-- a comprehension, by what holds from turn to turn -/
theorem lcL_post {f : D → Mem → Rs (Option D)} {j : Itm} {ds : List D} (hj : ItmIs j ds) {n0 : Nat} (I : Nat → List D → Mem → Prop)
    (step : ∀ i d acc μ, ds[i]? = some d → μ.length = n0 → I i acc μ → ∃ y μ', f d (μ ++ [.lst acc]) = .ok y (μ' ++ [.lst acc]) ∧ μ'.length = n0 ∧ I (i + 1) (acc ++ y.toList) μ') :
    ∀ k i acc μ, i + k = ds.length → acc.length ≤ i → ds.length ≤ sizeLine → μ.length = n0 → I i acc μ → ∃ acc' μ', lcL f j n0 k i (μ ++ [.lst acc]) = .ok (.fl acc') μ' ∧ μ'.length = n0 ∧ acc'.length ≤ ds.length ∧ I ds.length acc' μ'
  | 0, i, acc, μ, e, hl, hs, hm, h => by
    unfold lcL
    have : i = ds.length := by omega
    subst this
    rw [if_pos (hj.len _), List.getElem?_append_right (by omega), hm]
    simp only [Nat.sub_self, List.getElem?_cons_zero]
    rw [if_pos (by simp [hm])]
    refine ⟨acc, μ, ?_, hm, hl, h⟩
    rw [← hm, List.take_left]
  | k + 1, i, acc, μ, e, hl, hs, hm, h => by
    unfold lcL
    have hi : i < ds.length := by omega
    rw [hj.at_, List.getElem?_eq_getElem hi]
    simp only
    obtain ⟨y, μ', q, hm', h'⟩ := step i ds[i] acc μ (List.getElem?_eq_getElem hi) hm h
    rw [q]
    cases y with
    | none =>
      simp only
      rw [Option.toList_none, List.append_nil] at h'
      exact lcL_post hj I step k (i + 1) acc μ' (by omega) (by omega) hs hm' h'
    | some x =>
      simp only
      rw [List.getElem?_append_right (by omega), hm']
      simp only [Nat.sub_self, List.getElem?_cons_zero]
      rw [if_pos (by omega)]
      have es : (μ' ++ [Cell.lst acc]).set n0 (.lst (acc ++ [x])) = μ' ++ [.lst (acc ++ [x])] := by
        rw [List.set_append_right _ _ (by omega), hm', Nat.sub_self]
        rfl
      rw [es]
      exact lcL_post hj I step k (i + 1) (acc ++ [x]) μ' (by omega) (by simp; omega) hs hm' h'
theorem cLc_post {ci : Vr → Mem → Rs Itm} {own : List Nat} {g : GC} {tt : TC} {te : EC} {ρ : Vr} {μ μ1 : Mem} {j : Itm} {ds : List D} (hj : ItmIs j ds) (h : ci ρ μ = .ok j μ1) (hs : ds.length ≤ sizeLine) (I : Nat → List D → Mem → Prop)
    (step : ∀ i d acc μ, ds[i]? = some d → μ.length = μ1.length → I i acc μ → ∃ y μ', lcF own g tt te ρ d (μ ++ [.lst acc]) = .ok y (μ' ++ [.lst acc]) ∧ μ'.length = μ1.length ∧ I (i + 1) (acc ++ y.toList) μ') (h0 : I 0 [] μ1) :
    ∃ acc' μ', cLc ci own g tt te ρ μ = .ok (.fl acc') μ' ∧ μ'.length = μ1.length ∧ acc'.length ≤ ds.length ∧ I ds.length acc' μ' := by
  unfold cLc
  rw [h]
  simp only [Rs.bind, hj.len]
  exact lcL_post hj I step ds.length 0 [] μ1 (by omega) (by simp) hs rfl h0
/-- .. that keeps the memory -/
theorem cLc_map {ci : Vr → Mem → Rs Itm} {own : List Nat} {g : GC} {tt : TC} {te : EC} {ρ : Vr} {μ μ1 : Mem} {j : Itm} {ds : List D} (f : D → Option D) (hj : ItmIs j ds) (h : ci ρ μ = .ok j μ1) (hs : ds.length ≤ sizeLine)
    (step : ∀ d ∈ ds, ∀ μ', (∀ i < μ1.length, μ'[i]? = μ1[i]?) → lcF own g tt te ρ d μ' = .ok (f d) μ') : cLc ci own g tt te ρ μ = .ok (.fl (ds.filterMap f)) μ1 := by
  obtain ⟨acc, μ', q, hl, _, h1, h2⟩ := cLc_post (own := own) (g := g) (tt := tt) (te := te) hj h hs (fun i acc μ => μ = μ1 ∧ acc = (ds.take i).filterMap f) (fun i d acc μ e hm hI => by
    obtain ⟨rfl, rfl⟩ := hI
    refine ⟨f d, μ, step d (List.mem_of_getElem? e) _ (fun i hi => by rw [List.getElem?_append_left hi]), rfl, rfl, ?_⟩
    rw [List.take_add_one, e, List.filterMap_append]
    cases hf : f d <;> simp [hf]) ⟨rfl, by simp⟩
  subst h1
  rw [q, h2, List.take_length]
theorem cLc_map1 {ci : Vr → Mem → Rs Itm} {own : List Nat} {g : GC} {tt : TC} {te : EC} {ρ : Vr} {μ μ1 : Mem} {j : Itm} {ds : List D} (f : D → D) (hj : ItmIs j ds) (h : ci ρ μ = .ok j μ1) (hs : ds.length ≤ sizeLine)
    (step : ∀ d ∈ ds, ∀ μ', (∀ i < μ1.length, μ'[i]? = μ1[i]?) → lcF own g tt te ρ d μ' = .ok (some (f d)) μ') : cLc ci own g tt te ρ μ = .ok (.fl (ds.map f)) μ1 := by
  rw [cLc_map (fun d => some (f d)) hj h hs step]
  rw [List.filterMap_eq_map']
theorem take_all {μ : Mem} : μ.take μ.length = μ := List.take_length
theorem nat_sizeLine {n : Nat} (h : n ≤ 1000000) : n ≤ sizeLine := Nat.le_trans h (by decide)
/-- the cells that were there, whatever came behind -/
theorem expo_ok {k : Nat} {x : D} {μ : Mem} : expo k (.rt (.d x) μ) = .ok (.d x) (μ.take k) := rfl
end Em
set_option maxRecDepth 100000
namespace Em
open PySem PySem.Spec PyProof.Rows L2
theorem cV_ (i : Nat) (ρ : Vr) (μ : Mem) : cV i ρ μ = (match ρ[i]? with
  | some (some r) => .ok r μ
  | _ => .no) := rfl
theorem cK_ (x : D) (z0 : Vr) (μ : Mem) : cK x z0 μ = (.ok (.d x) μ) := rfl
theorem cBin_ (o : R → R → Mem → Rs R) (ca cb : EC) (ρ : Vr) (μ : Mem) : cBin o ca cb ρ μ = ((ca ρ μ).bind fun ra μ1 => (cb ρ μ1).bind fun rb μ2 => o ra rb μ2) := rfl
theorem cCall_ (o : List R → Mem → Rs R) (ca : AC) (ρ : Vr) (μ : Mem) : cCall o ca ρ μ = ((ca ρ μ).bind o) := rfl
theorem cCons_ (c : EC) (cs : AC) (ρ : Vr) (μ : Mem) : cCons c cs ρ μ = ((c ρ μ).bind fun r μ1 => (cs ρ μ1).bind fun rs μ2 => .ok (r :: rs) μ2) := rfl
theorem cNil_  (z0 : Vr) (μ : Mem) : cNil  z0 μ = (.ok [] μ) := rfl
theorem cH_ (c : EC) (ρ : Vr) (μ : Mem) : cH c ρ μ = ((c ρ μ).bind hold) := rfl
theorem cD_ (c : EC) (ρ : Vr) (μ : Mem) : cD c ρ μ = ((c ρ μ).bind toD) := rfl
theorem cA_ (c : EC) (ρ : Vr) (μ : Mem) : cA c ρ μ = ((c ρ μ).bind adopt) := rfl
theorem cT_ (c : EC) (ρ : Vr) (μ : Mem) : cT c ρ μ = ((c ρ μ).bind bT) := rfl
theorem cIf_ (t : TC) (a b : EC) (ρ : Vr) (μ : Mem) : cIf t a b ρ μ = ((t ρ μ).bind fun k μ1 => if k = true then a ρ μ1 else b ρ μ1) := rfl
theorem cAndT_ (a b : TC) (ρ : Vr) (μ : Mem) : cAndT a b ρ μ = ((a ρ μ).bind fun k μ1 => if k = true then b ρ μ1 else .ok false μ1) := rfl
theorem cOrT_ (a b : TC) (ρ : Vr) (μ : Mem) : cOrT a b ρ μ = ((a ρ μ).bind fun k μ1 => if k = true then .ok true μ1 else b ρ μ1) := rfl
theorem cNotT_ (a : TC) (ρ : Vr) (μ : Mem) : cNotT a ρ μ = ((a ρ μ).bind fun k μ1 => .ok (!k) μ1) := rfl
theorem cAndV_ (a b : EC) (ρ : Vr) (μ : Mem) : cAndV a b ρ μ = ((a ρ μ).bind fun r μ1 => (bT r μ1).bind fun k μ2 => if k = true then b ρ μ2 else .ok (.d (.bool false)) μ2) := rfl
theorem cOrV_ (a b : EC) (ρ : Vr) (μ : Mem) : cOrV a b ρ μ = ((a ρ μ).bind fun r μ1 => (bT r μ1).bind fun k μ2 => if k = true then .ok (.d (.bool true)) μ2 else b ρ μ2) := rfl
theorem cNotV_ (a : EC) (ρ : Vr) (μ : Mem) : cNotV a ρ μ = ((a ρ μ).bind fun r μ1 => (bT r μ1).bind fun k μ2 => .ok (.d (.bool (!k))) μ2) := rfl
theorem cChain_ (o o' : R → R → Mem → Rs R) (a b c : EC) (ρ : Vr) (μ : Mem) : cChain o o' a b c ρ μ = ((a ρ μ).bind fun ra μ1 => (b ρ μ1).bind fun rb μ2 => (o ra rb μ2).bind fun r μ3 => (bT r μ3).bind fun k μ4 =>
  if k = true then (c ρ μ4).bind fun rc μ5 => o' rb rc μ5 else .ok (.d (.bool false)) μ4) := rfl
theorem cSl_ (c : EC) (l h : PC') (ρ : Vr) (μ : Mem) : cSl c l h ρ μ = ((c ρ μ).bind fun ra μ1 => (l ρ μ1).bind fun lo μ2 => (h ρ μ2).bind fun hi μ3 => opSl ra lo hi μ3) := rfl
theorem cPart_ (c : EC) (ρ : Vr) (μ : Mem) : cPart c ρ μ = ((c ρ μ).bind iP) := rfl
theorem cNoPart_  (z0 : Vr) (μ : Mem) : cNoPart  z0 μ = (.ok none μ) := rfl
theorem cMt_ (Ty : String) (o : R → List R → Mem → Rs R) (c : EC) (ca : AC) (ρ : Vr) (μ : Mem) : cMt Ty o c ca ρ μ = ((c ρ μ).bind fun r μ1 => if isTy Ty r μ1 = true then (ca ρ μ1).bind fun rs μ2 => o r rs μ2 else .no) := rfl
theorem cIsi_ (Ty : String) (c : EC) (ρ : Vr) (μ : Mem) : cIsi Ty c ρ μ = ((c ρ μ).bind fun r μ1 => match tyName r μ1 with
  | some t => match kitB t Ty with
    | some b => .ok (.d (.bool b)) μ1
    | none => .no
  | none => .no) := rfl
theorem cNeg_ (c : EC) (ρ : Vr) (μ : Mem) : cNeg c ρ μ = ((c ρ μ).bind fun r μ1 => match r with
  | .d (.int i) => .ok (.d (.int (-i))) μ1
  | _ => .no) := rfl
theorem cFn_ (n : Nat) (φ : Fn) (ca : AC) (ρ : Vr) (μ : Mem) : cFn n φ ca ρ μ = ((ca ρ μ).bind fun rs μ1 => if rs.length = n then φ rs μ1 else .no) := rfl
theorem sNil_  (ρ : Vr) (μ : Mem) : sNil  ρ μ = (.nx ρ μ) := rfl
theorem sCons_ (a b : SC) (ρ : Vr) (μ : Mem) : sCons a b ρ μ = (match a ρ μ with
  | .nx ρ' μ' => b ρ' μ'
  | o => o) := rfl
theorem sIf_ (t : TC) (a b : SC) (ρ : Vr) (μ : Mem) : sIf t a b ρ μ = ((t ρ μ).thenS ρ fun k μ1 => if k = true then a ρ μ1 else b ρ μ1) := rfl
theorem sSet_ (i : Nat) (c : EC) (ρ : Vr) (μ : Mem) : sSet i c ρ μ = ((c ρ μ).thenS ρ fun r μ1 => .nx (ρ.set i (some r)) μ1) := rfl
theorem sPar_ (i j : Nat) (ca cb : EC) (ρ : Vr) (μ : Mem) : sPar i j ca cb ρ μ = ((ca ρ μ).thenS ρ fun r μ1 => (cb ρ μ1).thenS ρ fun r' μ2 => .nx ((ρ.set i (some r)).set j (some r')) μ2) := rfl
theorem sExpr_ (c : EC) (ρ : Vr) (μ : Mem) : sExpr c ρ μ = ((c ρ μ).thenS ρ fun _ μ1 => .nx ρ μ1) := rfl
theorem sRet_ (c : EC) (ρ : Vr) (μ : Mem) : sRet c ρ μ = ((c ρ μ).thenS ρ fun r μ1 => .rt r μ1) := rfl
theorem sRetN_  (z0 : Vr) (μ : Mem) : sRetN  z0 μ = (.rt (.d .none) μ) := rfl
theorem sRaise_ (x : Str) (ρ : Vr) (μ : Mem) : sRaise x ρ μ = (.ex ⟨x, none⟩ ρ μ) := rfl
theorem sBrk_  (ρ : Vr) (μ : Mem) : sBrk  ρ μ = (.bk ρ μ) := rfl
theorem sCnt_  (ρ : Vr) (μ : Mem) : sCnt  ρ μ = (.ct ρ μ) := rfl
theorem sStore_ (co ci ce : EC) (ρ : Vr) (μ : Mem) : sStore co ci ce ρ μ = ((cD ce ρ μ).thenS ρ fun rx μ1 => (co ρ μ1).thenS ρ fun ro μ2 => (ci ρ μ2).thenS ρ fun ri μ3 => match rx with
  | .d x => match opStore ro ri x μ3 with
    | some μ4 => .nx ρ μ4
    | none => .no
  | _ => .no) := rfl
theorem fnOf_ (N : Nat) (body : SC) (ws : List R) (μ : Mem) : fnOf N body ws μ = (expo μ.length (body (ws.map some ++ List.replicate (N - ws.length) none) μ)) := rfl
theorem iAny_ (c : EC) (ρ : Vr) (μ : Mem) : iAny c ρ μ = ((c ρ μ).bind itmOf) := rfl
theorem iR1_ (c : EC) (ρ : Vr) (μ : Mem) : iR1 c ρ μ = ((c ρ μ).bind fun r μ1 => match r with
  | .d (.int j) => if -(2 ^ 62) ≤ j ∧ j < 2 ^ 62 then .ok (.rng 0 1 j.toNat) μ1 else .no
  | _ => .no) := rfl
theorem iR2_ (ca : AC) (ρ : Vr) (μ : Mem) : iR2 ca ρ μ = ((ca ρ μ).bind fun rs μ1 => match rs with
  | [.d (.int i), .d (.int j)] => if -(2 ^ 62) ≤ i ∧ i < 2 ^ 62 ∧ -(2 ^ 62) ≤ j ∧ j < 2 ^ 62 then .ok (.rng i 1 (j - i).toNat) μ1 else .no
  | _ => .no) := rfl
theorem iEn_ (c : EC) (ρ : Vr) (μ : Mem) : iEn c ρ μ = ((c ρ μ).bind enmOf) := rfl
theorem gN_ (i : Nat) (d : D) (ρ : Vr) : gN i d ρ = (some (ρ.set i (some (.d d)))) := rfl
theorem gT_ (gs : List D → Vr → Option Vr) (d : D) (ρ : Vr) : gT gs d ρ = (match d with
  | .tuple ds => gs ds ρ
  | _ => none) := rfl
theorem gsN_  (ds : List D) (ρ : Vr) : gsN  ds ρ = (match ds with
  | [] => some ρ
  | _ => none) := rfl
theorem gsC_ (g : GC) (gs : List D → Vr → Option Vr) (ds : List D) (ρ : Vr) : gsC g gs ds ρ = (match ds with
  | d :: ds => match g d ρ with
    | some ρ' => gs ds ρ'
    | none => none
  | [] => none) := rfl
theorem stepS_ (g : GC) (b : SC) (d : D) (ρ : Vr) (μ : Mem) : stepS g b d ρ μ = (match g d ρ with
  | some ρ' => b ρ' μ
  | none => .no) := rfl
theorem cYes_  (z0 : Vr) (μ : Mem) : cYes  z0 μ = (.ok true μ) := rfl
theorem lcF_ (own : List Nat) (g : GC) (tt : TC) (te : EC) (ρ : Vr) (d : D) (μ : Mem) : lcF own g tt te ρ d μ = (match g d (wipeR ρ own) with
  | some ρ' => match tt ρ' μ with
    | .ok true μ2 => match cD te ρ' μ2 with
      | .ok (.d x) μ3 => .ok (some x) μ3
      | _ => .no
    | .ok false μ2 => .ok none μ2
    | _ => .no
  | none => .no) := rfl
theorem get_set {μ : Mem} {n : Nat} {c c' : Cell} (h : μ[n]? = some c) : (μ.set n c')[n]? = some c' := List.getElem?_set_self (List.getElem?_eq_some_iff.mp h).1
theorem ix0 (w : D) (r : List D) : L2.atI (w :: r) 0 = some w := by simp [L2.atI, L2.ixN]
theorem atI_at {ds : List D} {k : Nat} {d : D} (h : ds[k]? = some d) : L2.atI ds (k : Nat) = some d := by
  have hk := (List.getElem?_eq_some_iff.mp h).1
  unfold L2.atI L2.ixN
  rw [if_pos (by omega), if_pos (by omega)]
  simpa using h
theorem atI_lastD {ds : List D} {d : D} : L2.atI (ds ++ [d]) (-1) = some d := by
  unfold L2.atI L2.ixN
  rw [if_neg (by decide), if_pos (by simp; omega)]
  have e : (-1 + (((ds ++ [d]).length : Nat) : Int)).toNat = ds.length := by simp; omega
  simp only [Option.bind_some, e]
  simp
theorem q40 : L2.ixN 4 0 = some 0 := rfl
theorem q41 : L2.ixN 4 1 = some 1 := rfl
theorem q42 : L2.ixN 4 2 = some 2 := rfl
theorem q43 : L2.ixN 4 3 = some 3 := rfl
theorem ix41 (w x y z : D) : L2.atI [w, x, y, z] 1 = some x := rfl
theorem ix42 (w x y z : D) : L2.atI [w, x, y, z] 2 = some y := rfl
theorem ix43 (w x y z : D) : L2.atI [w, x, y, z] 3 = some z := rfl
theorem ix11 (x y : D) (r : List D) : L2.atI (x :: y :: r) 1 = some y := by
  unfold L2.atI L2.ixN
  rw [if_pos (by decide), if_pos (by simp; omega)]
  rfl
end Em
set_option maxRecDepth 100000
namespace Em
open PySem PySem.Spec PyProof.Rows L2
theorem cutD_take {α : Type} (xs : List α) (k : Nat) : Em.cutD xs none (some (k : Int)) = xs.take k := by
  unfold Em.cutD
  rw [HT.sIx_none, HT.sIx_nat, List.drop_zero, Nat.sub_zero]
  by_cases h : k ≤ xs.length
  · rw [Nat.min_eq_left h]
  · rw [Nat.min_eq_right (by omega), List.take_length, List.take_of_length_le (by omega)]
theorem cutD_drop {α : Type} (xs : List α) (k : Nat) : Em.cutD xs (some (k : Int)) none = xs.drop k := by
  unfold Em.cutD
  rw [HT.sIx_none, HT.sIx_nat]
  by_cases h : k ≤ xs.length
  · rw [Nat.min_eq_left h, List.take_of_length_le (by simp)]
  · rw [Nat.min_eq_right (by omega), List.drop_eq_nil_of_le (Nat.le_refl _), List.drop_eq_nil_of_le (by omega)]; simp
theorem cutD_init {α : Type} (xs : List α) : Em.cutD xs none (some (-1)) = xs.dropLast := by
  unfold Em.cutD
  rw [HT.sIx_none]
  have e : HT.sIx xs.length xs.length (some (-1)) = xs.length - 1 := by
    show (if ((-1 : Int)) < 0 then (((-1 : Int)) + (xs.length : Int)).toNat else min ((-1 : Int)).toNat xs.length) = _
    rw [if_pos (by decide)]
    omega
  rw [e, List.drop_zero, Nat.sub_zero, List.dropLast_eq_take]
theorem cutD_mem {α : Type} {xs : List α} {lo hi : Option Int} {x : α} (h : x ∈ Em.cutD xs lo hi) : x ∈ xs := by
  unfold Em.cutD at h
  exact List.mem_of_mem_drop (List.mem_of_mem_take h)
theorem set_app {μ : Mem} {n : Nat} {c d : Cell} (h : n < μ.length) : (μ ++ [d]).set n c = μ.set n c ++ [d] := List.set_append_left _ _ h
theorem get_app {μ : Mem} {n : Nat} {c d : Cell} (h : μ[n]? = some c) : (μ ++ [d])[n]? = some c := by
  rw [List.getElem?_append_left (List.getElem?_eq_some_iff.mp h).1]; exact h
theorem take_set {μ : Mem} {n : Nat} {c : Cell} : List.take μ.length (μ.set n c) = μ.set n c := List.take_of_length_le (by rw [List.length_set]; exact Nat.le_refl _)
theorem take_app {μ t : Mem} : List.take μ.length (μ ++ t) = μ := List.take_left
theorem get_lt {μ : Mem} {n : Nat} {c : Cell} (h : μ[n]? = some c) : n < μ.length := (List.getElem?_eq_some_iff.mp h).1
theorem kb_NoneType_int : kitB "NoneType" "int" = some false := by decide +kernel
theorem kb_NoneType_bool : kitB "NoneType" "bool" = some false := by decide +kernel
theorem kb_NoneType_str : kitB "NoneType" "str" = some false := by decide +kernel
theorem kb_NoneType_tuple : kitB "NoneType" "tuple" = some false := by decide +kernel
theorem kb_NoneType_list : kitB "NoneType" "list" = some false := by decide +kernel
theorem kb_NoneType_dict : kitB "NoneType" "dict" = some false := by decide +kernel
theorem kb_bool_int : kitB "bool" "int" = some true := by decide +kernel
theorem kb_bool_bool : kitB "bool" "bool" = some true := by decide +kernel
theorem kb_bool_str : kitB "bool" "str" = some false := by decide +kernel
theorem kb_bool_tuple : kitB "bool" "tuple" = some false := by decide +kernel
theorem kb_bool_list : kitB "bool" "list" = some false := by decide +kernel
theorem kb_bool_dict : kitB "bool" "dict" = some false := by decide +kernel
theorem kb_int_int : kitB "int" "int" = some true := by decide +kernel
theorem kb_int_bool : kitB "int" "bool" = some false := by decide +kernel
theorem kb_int_str : kitB "int" "str" = some false := by decide +kernel
theorem kb_int_tuple : kitB "int" "tuple" = some false := by decide +kernel
theorem kb_int_list : kitB "int" "list" = some false := by decide +kernel
theorem kb_int_dict : kitB "int" "dict" = some false := by decide +kernel
theorem kb_str_int : kitB "str" "int" = some false := by decide +kernel
theorem kb_str_bool : kitB "str" "bool" = some false := by decide +kernel
theorem kb_str_str : kitB "str" "str" = some true := by decide +kernel
theorem kb_str_tuple : kitB "str" "tuple" = some false := by decide +kernel
theorem kb_str_list : kitB "str" "list" = some false := by decide +kernel
theorem kb_str_dict : kitB "str" "dict" = some false := by decide +kernel
theorem kb_list_int : kitB "list" "int" = some false := by decide +kernel
theorem kb_list_bool : kitB "list" "bool" = some false := by decide +kernel
theorem kb_list_str : kitB "list" "str" = some false := by decide +kernel
theorem kb_list_tuple : kitB "list" "tuple" = some false := by decide +kernel
theorem kb_list_list : kitB "list" "list" = some true := by decide +kernel
theorem kb_list_dict : kitB "list" "dict" = some false := by decide +kernel
theorem kb_tuple_int : kitB "tuple" "int" = some false := by decide +kernel
theorem kb_tuple_bool : kitB "tuple" "bool" = some false := by decide +kernel
theorem kb_tuple_str : kitB "tuple" "str" = some false := by decide +kernel
theorem kb_tuple_tuple : kitB "tuple" "tuple" = some true := by decide +kernel
theorem kb_tuple_list : kitB "tuple" "list" = some false := by decide +kernel
theorem kb_tuple_dict : kitB "tuple" "dict" = some false := by decide +kernel
theorem kb_dict_int : kitB "dict" "int" = some false := by decide +kernel
theorem kb_dict_bool : kitB "dict" "bool" = some false := by decide +kernel
theorem kb_dict_str : kitB "dict" "str" = some false := by decide +kernel
theorem kb_dict_tuple : kitB "dict" "tuple" = some false := by decide +kernel
theorem kb_dict_list : kitB "dict" "list" = some false := by decide +kernel
theorem kb_dict_dict : kitB "dict" "dict" = some true := by decide +kernel
theorem kD_nn : kinD .none .none = true := rfl
theorem kD_ii (a : Int) (b : Int) : kinD (.int a) (.int b) = true := rfl
theorem kD_bb (a : Bool) (b : Bool) : kinD (.bool a) (.bool b) = true := rfl
theorem kD_ss (a : Str) (b : Str) : kinD (.str a) (.str b) = true := rfl
theorem kD_ni (b : Int) : kinD .none (.int b) = true := rfl
theorem kD_nb (b : Bool) : kinD .none (.bool b) = true := rfl
theorem kD_ns (b : Str) : kinD .none (.str b) = true := rfl
theorem kD_in (a : Int) : kinD (.int a) .none = true := rfl
theorem kD_bn (a : Bool) : kinD (.bool a) .none = true := rfl
theorem kD_sn (a : Str) : kinD (.str a) .none = true := rfl
theorem kD_is (a : Int) (b : Str) : kinD (.int a) (.str b) = true := rfl
theorem kD_si (a : Str) (b : Int) : kinD (.str a) (.int b) = true := rfl
theorem kD_bs (a : Bool) (b : Str) : kinD (.bool a) (.str b) = true := rfl
theorem kD_sb (a : Str) (b : Bool) : kinD (.str a) (.bool b) = true := rfl
theorem kD_tuple1 (a : List D) (x : D) : kinD (.tuple a) x = false := by cases x <;> rfl
theorem kD_tuple2 (a : List D) (x : D) : kinD x (.tuple a) = false := by cases x <;> rfl
theorem kD_list1 (a : List D) (x : D) : kinD (.list a) x = false := by cases x <;> rfl
theorem kD_list2 (a : List D) (x : D) : kinD x (.list a) = false := by cases x <;> rfl
theorem kD_ib (a : Int) (b : Bool) : kinD (.int a) (.bool b) = false := rfl
theorem kD_bi (a : Bool) (b : Int) : kinD (.bool a) (.int b) = false := rfl
/-- whether it's a whole number, no truth value -/
def isIntD : D → Bool
  | .int _ => true
  | _ => false
def noDict : D → Bool
  | .dict _ => false
  | _ => true
def withinD (lo hi : Int) : D → Bool
  | .int i => decide (lo ≤ i ∧ i ≤ hi)
  | _ => false
def sizedD (lo hi : Int) : D → Bool
  | .tuple xs => decide (lo ≤ ((xs.length : Nat) : Int) ∧ ((xs.length : Nat) : Int) ≤ hi)
  | _ => false
end Em
set_option maxRecDepth 100000
set_option maxHeartbeats 0
namespace L52
open PySem PySem.Spec PyProof.Rows L2 Em
def topS (i : Nat) : Stmt := PySem.Challenge.pw_emberhall_k52_whole_codes_and_their_beat.main.body.getD i (.Pass ⟨0, 0, 0, 0⟩)
def subL : List (Str × Str × Bool) := [("EmberError", "NoCode", false), ("EmberError", "NoText", false), ("EmberError", "EmberError", true), ("NoText", "NoCode", false), ("NoText", "NoText", true), ("NoText", "EmberError", true), ("NoCode", "NoCode", true), ("NoCode", "NoText", false), ("NoCode", "EmberError", true)]
def sub : Str → Str → Option Bool := subF subL
structure G (mg : Str → Option Value) : Prop where
  n_int : mg "int" = none
  n_len : mg "len" = none
  n_abs : mg "abs" = none
  n_isinstance : mg "isinstance" = none
  n_tuple : mg "tuple" = none
  n_bool : mg "bool" = none
  n_all : mg "all" = none
  n_str : mg "str" = none
  n_max : mg "max" = none
  n_range : mg "range" = none
  i_MOST_NUMBERS : ∃ t, mg "MOST_NUMBERS" = some (.int 4 t)
  i_MOST_BEATS : ∃ t, mg "MOST_BEATS" = some (.int 9 t)
  i_MOST_TEXT : ∃ t, mg "MOST_TEXT" = some (.int 400 t)
  s_REST : ∃ t, mg "REST" = some (.str "00" t)
  s_BEAT : ∃ t, mg "BEAT" = some (.str "10" t)
/-! ### _law_hand -/
abbrev st__law_hand : Stmt := topS 20
def N__law_hand : List Str := ["script", "cell"]
theorem sc__law_hand : FnScope N__law_hand ["script"] (defScope st__law_hand) := ⟨rfl, rfl, rfl, by decide +kernel, rfl, by decide +kernel, by decide +kernel⟩
def C__law_hand : SC :=
  (sRet (cCall opLst (cCons (cD (cLc (iAny (cH (cSl (cV 0) cNoPart (cPart (cK (.int 63)))))) [1] (gN 1) cYes (cCall (one fInt) (cCons (cV 1) cNil)))) (cCons (cK (.int 0)) (cCons (cK (.int 0)) (cCons (cK (.int 0)) cNil))))))
def F__law_hand : Fn := fnOf 2 C__law_hand
theorem ok__law_hand {P : Program} {w : World} {K : PySem.W.Frag} {mg : Str → Option Value} {base : Heap} {T : Tb} {f : Addr} {fd : FuncData} (g : G mg) (F : Fun K "_law_hand" "_law_hand" st__law_hand f fd) (hm : mg "_law_hand" = some (.ref f)) (hb : Binds K fd ["script"] []) : Callee P w K mg base T "_law_hand" 1 1 F__law_hand := by
  have nd := sc__law_hand.nd
  exact Callee.mk' F sc__law_hand rfl hm hb fun cdv A outer s H E hr => (db_one (ds_ret (de_lst (da_cons (DE.data (de_lc nd (di_any (DE.hold (de_sl (dw_var 0) dp_none (dp_some (DW.toE dw_int))))) (blkOk_by (own := [("cell", 1)]) (by kernel_rfl)) (fun _ _ _ _ _ => (dg_name 1 nd)) (fun _ _ _ _ _ => dts_nil) (fun _ _ _ _ _ => (de_callTy cd_int g.n_int (da_cons (dw_var 1) da_nil))))) (da_cons dw_int (da_cons dw_int (da_cons dw_int da_nil)))))))
/-! ### _law_beats -/
abbrev st__law_beats : Stmt := topS 24
def N__law_beats : List Str := ["code", "number"]
theorem sc__law_beats : FnScope N__law_beats ["code"] (defScope st__law_beats) := ⟨rfl, rfl, rfl, by decide +kernel, rfl, by decide +kernel, by decide +kernel⟩
def C__law_beats : SC :=
  (sRet (cMt "str" mJoin (cK (.str "00")) (cCons (cH (cLc (iAny (cV 0)) [1] (gN 1) cYes (cBin opMul (cK (.str "10")) (cV 1)))) cNil)))
def F__law_beats : Fn := fnOf 2 C__law_beats
theorem ok__law_beats {P : Program} {w : World} {K : PySem.W.Frag} {mg : Str → Option Value} {base : Heap} {T : Tb} {f : Addr} {fd : FuncData} (g : G mg) (F : Fun K "_law_beats" "_law_beats" st__law_beats f fd) (hm : mg "_law_beats" = some (.ref f)) (hb : Binds K fd ["code"] []) : Callee P w K mg base T "_law_beats" 1 1 F__law_beats := by
  have nd := sc__law_beats.nd
  exact Callee.mk' F sc__law_beats rfl hm hb fun cdv A outer s H E hr => (db_one (ds_ret (de_mt md_join dw_str (da_cons (DE.hold (de_lc nd (di_any (dw_var 0)) (blkOk_by (own := [("number", 1)]) (by kernel_rfl)) (fun _ _ _ _ _ => (dg_name 1 nd)) (fun _ _ _ _ _ => dts_nil) (fun _ _ _ _ _ => (de_bin (od_mul op_repL) dw_str (dw_var 1))))) da_nil) PySem.F.plainAttrs_str PySem.F.slot_str_join PySem.F.type_str_join)))
/-! ### _law_mixed -/
abbrev st__law_mixed : Stmt := topS 21
def N__law_mixed : List Str := ["cell", "turn", "number"]
theorem sc__law_mixed : FnScope N__law_mixed ["cell", "turn"] (defScope st__law_mixed) := ⟨rfl, rfl, rfl, by decide +kernel, rfl, by decide +kernel, by decide +kernel⟩
def C__law_mixed : SC :=
  (sCons (sSet 2 (cH (cBin opMod (cH (cCall (one fInt) (cCons (cH (cBin opMul (cH (cBin opAdd (cH (cBin opAdd (cH (cBin opMod (cH (cCall (one fInt) (cCons (cV 0) cNil))) (cK (.int 2147483647)))) (cH (cBin opMul (cK (.int 7919)) (cV 1))))) (cK (.int 1)))) (cK (.int 48271)))) cNil))) (cK (.int 2147483647)))))
  (sCons (sSet 2 (cH (cBin opMod (cH (cCall (one fInt) (cCons (cH (cBin opMul (cV 2) (cH (cBin opAdd (cH (cBin opDiv (cV 2) (cK (.int 1009)))) (cK (.int 69621)))))) cNil))) (cK (.int 2147483647)))))
  (sRet (cBin opDiv (cH (cBin opMod (cH (cCall (one fInt) (cCons (cH (cBin opMul (cV 2) (cH (cBin opAdd (cH (cBin opDiv (cV 2) (cK (.int 2003)))) (cK (.int 40692)))))) cNil))) (cK (.int 2147483399)))) (cK (.int 16))))))
def F__law_mixed : Fn := fnOf 3 C__law_mixed
theorem ok__law_mixed {P : Program} {w : World} {K : PySem.W.Frag} {mg : Str → Option Value} {base : Heap} {T : Tb} {f : Addr} {fd : FuncData} (g : G mg) (F : Fun K "_law_mixed" "_law_mixed" st__law_mixed f fd) (hm : mg "_law_mixed" = some (.ref f)) (hb : Binds K fd ["cell", "turn"] []) : Callee P w K mg base T "_law_mixed" 2 1 F__law_mixed := by
  have nd := sc__law_mixed.nd
  exact Callee.mk' F sc__law_mixed rfl hm hb fun cdv A outer s H E hr => (db_cons (ds_set 2 nd (DE.hold (de_bin od_mod (DE.hold (de_callTy cd_int g.n_int (da_cons (DE.hold (de_bin (od_mul op_repL) (DE.hold (de_bin od_add (DE.hold (de_bin od_add (DE.hold (de_bin od_mod (DE.hold (de_callTy cd_int g.n_int (da_cons (dw_var 0) da_nil))) dw_int)) (DE.hold (de_bin (od_mul op_repL) dw_int (dw_var 1))))) dw_int)) dw_int)) da_nil))) dw_int)))
  (db_cons (ds_set 2 nd (DE.hold (de_bin od_mod (DE.hold (de_callTy cd_int g.n_int (da_cons (DE.hold (de_bin (od_mul op_repL) (dw_var 2) (DE.hold (de_bin od_add (DE.hold (de_bin od_div (dw_var 2) dw_int)) dw_int)))) da_nil))) dw_int)))
  (db_one (ds_ret (de_bin od_div (DE.hold (de_bin od_mod (DE.hold (de_callTy cd_int g.n_int (da_cons (DE.hold (de_bin (od_mul op_repL) (dw_var 2) (DE.hold (de_bin od_add (DE.hold (de_bin od_div (dw_var 2) dw_int)) dw_int)))) da_nil))) dw_int)) dw_int)))))
/-! ### _law_draw -/
abbrev st__law_draw : Stmt := topS 22
def N__law_draw : List Str := ["hand", "many", "found", "cells", "at", "cell"]
theorem sc__law_draw : FnScope N__law_draw ["hand", "many"] (defScope st__law_draw) := ⟨rfl, rfl, rfl, by decide +kernel, rfl, by decide +kernel, by decide +kernel⟩
def C__law_draw : SC :=
  (sCons (sStore (cV 0) (cK (.int 3)) (cBin opAdd (cH (cBin opIx (cV 0) (cK (.int 3)))) (cK (.int 1))))
  (sCons (sIf (cT (cBin opGt (cH (cBin opIx (cV 0) (cK (.int 2)))) (cK (.int 0))))
  (sCons (sSet 2 (cH (cBin opMod (cH (cCall (one fInt) (cCons (cH (cBin opIx (cV 0) (cK (.int 2)))) cNil))) (cV 1))))
  (sCons (sStore (cV 0) (cK (.int 2)) (cBin opDiv (cH (cBin opIx (cV 0) (cK (.int 2)))) (cV 1)))
  (sRet (cV 2))))
  sNil)
  (sCons (sPar 3 4 (cH (cBin opIx (cV 0) (cK (.int 0)))) (cH (cBin opIx (cV 0) (cK (.int 1)))))
  (sCons (sStore (cV 0) (cK (.int 1)) (cBin opAdd (cV 4) (cK (.int 1))))
  (sCons (sIf (cT (cBin (opEq false) (cH (cCall (one fLen) (cCons (cV 3) cNil))) (cK (.int 0))))
  (sRet (cBin opMod (cH (cCall (one fInt) (cCons (cH (cFn 2 F__law_mixed (cCons (cK (.int 0)) (cCons (cH (cBin opIx (cV 0) (cK (.int 3)))) cNil)))) cNil))) (cV 1)))
  sNil)
  (sCons (sSet 5 (cH (cBin opIx (cV 3) (cH (cBin opMod (cH (cCall (one fInt) (cCons (cV 4) cNil))) (cH (cCall (one fLen) (cCons (cV 3) cNil))))))))
  (sCons (sIf (cAndT (cT (cBin opLt (cV 4) (cH (cCall (one fLen) (cCons (cV 3) cNil))))) (cT (cBin opGe (cH (cCall (one fAbs) (cCons (cV 5) cNil))) (cH (cBin opPow (cK (.int 10)) (cK (.int 18)))))))
  (sCons (sStore (cV 0) (cK (.int 2)) (cBin opDiv (cH (cCall (one fAbs) (cCons (cV 5) cNil))) (cV 1)))
  (sRet (cBin opMod (cH (cCall (one fInt) (cCons (cH (cCall (one fAbs) (cCons (cV 5) cNil))) cNil))) (cV 1))))
  sNil)
  (sRet (cBin opMod (cH (cCall (one fInt) (cCons (cH (cFn 2 F__law_mixed (cCons (cV 5) (cCons (cH (cBin opIx (cV 0) (cK (.int 3)))) cNil)))) cNil))) (cV 1))))))))))
def F__law_draw : Fn := fnOf 6 C__law_draw
theorem ok__law_draw {P : Program} {w : World} {K : PySem.W.Frag} {mg : Str → Option Value} {base : Heap} {T : Tb} {f : Addr} {fd : FuncData} (g : G mg) (F : Fun K "_law_draw" "_law_draw" st__law_draw f fd) (hm : mg "_law_draw" = some (.ref f)) (hb : Binds K fd ["hand", "many"] []) (G__law_mixed : Callee P w K mg base T "_law_mixed" 2 1 F__law_mixed) : Callee P w K mg base T "_law_draw" 2 2 F__law_draw := by
  have nd := sc__law_draw.nd
  exact Callee.mk' F sc__law_draw rfl hm hb fun cdv A outer s H E hr => (db_cons (ds_store (dw_var 0) dw_int (de_bin od_add (DE.hold (de_ix ix_all (dw_var 0) dw_int)) dw_int))
  (db_cons (ds_if (dt_cmp od_gt (DE.hold (de_ix ix_all (dw_var 0) dw_int)) dw_int)
  (db_cons (ds_set 2 nd (DE.hold (de_bin od_mod (DE.hold (de_callTy cd_int g.n_int (da_cons (DE.hold (de_ix ix_all (dw_var 0) dw_int)) da_nil))) (dw_var 1))))
  (db_cons (ds_store (dw_var 0) dw_int (de_bin od_div (DE.hold (de_ix ix_all (dw_var 0) dw_int)) (dw_var 1)))
  (db_one (ds_ret (DW.toE (dw_var 2))))))
  db_nil)
  (db_cons (ds_par 3 4 nd (DE.hold (de_ix ix_all (dw_var 0) dw_int)) (DE.hold (de_ix ix_all (dw_var 0) dw_int)))
  (db_cons (ds_store (dw_var 0) dw_int (de_bin od_add (dw_var 4) dw_int))
  (db_cons (ds_if (dt_cmp (od_eq hr) (DE.hold (de_callB cd_len g.n_len (da_cons (dw_var 3) da_nil))) dw_int)
  (db_one (ds_ret (de_bin od_mod (DE.hold (de_callTy cd_int g.n_int (da_cons (DE.hold (de_fn G__law_mixed hr (da_cons dw_int (da_cons (DE.hold (de_ix ix_all (dw_var 0) dw_int)) da_nil)))) da_nil))) (dw_var 1))))
  db_nil)
  (db_cons (ds_set 5 nd (DE.hold (de_ix ix_all (dw_var 3) (DE.hold (de_bin od_mod (DE.hold (de_callTy cd_int g.n_int (da_cons (dw_var 4) da_nil))) (DE.hold (de_callB cd_len g.n_len (da_cons (dw_var 3) da_nil))))))))
  (db_cons (ds_if (DU.t (du_and (dt_cmp od_lt (dw_var 4) (DE.hold (de_callB cd_len g.n_len (da_cons (dw_var 3) da_nil)))) (du_and1 (dt_cmp od_ge (DE.hold (de_callB cd_abs g.n_abs (da_cons (dw_var 5) da_nil))) (DE.hold (de_bin od_pow dw_int dw_int))))))
  (db_cons (ds_store (dw_var 0) dw_int (de_bin od_div (DE.hold (de_callB cd_abs g.n_abs (da_cons (dw_var 5) da_nil))) (dw_var 1)))
  (db_one (ds_ret (de_bin od_mod (DE.hold (de_callTy cd_int g.n_int (da_cons (DE.hold (de_callB cd_abs g.n_abs (da_cons (dw_var 5) da_nil))) da_nil))) (dw_var 1)))))
  db_nil)
  (db_one (ds_ret (de_bin od_mod (DE.hold (de_callTy cd_int g.n_int (da_cons (DE.hold (de_fn G__law_mixed hr (da_cons (dw_var 5) (da_cons (DE.hold (de_ix ix_all (dw_var 0) dw_int)) da_nil)))) da_nil))) (dw_var 1)))))))))))
/-! ### _law_any -/
abbrev st__law_any : Stmt := topS 23
def N__law_any : List Str := ["hand", "some"]
theorem sc__law_any : FnScope N__law_any ["hand", "some"] (defScope st__law_any) := ⟨rfl, rfl, rfl, by decide +kernel, rfl, by decide +kernel, by decide +kernel⟩
def C__law_any : SC :=
  (sRet (cBin opIx (cV 1) (cH (cFn 2 F__law_draw (cCons (cV 0) (cCons (cH (cCall (one fLen) (cCons (cV 1) cNil))) cNil))))))
def F__law_any : Fn := fnOf 2 C__law_any
theorem ok__law_any {P : Program} {w : World} {K : PySem.W.Frag} {mg : Str → Option Value} {base : Heap} {T : Tb} {f : Addr} {fd : FuncData} (g : G mg) (F : Fun K "_law_any" "_law_any" st__law_any f fd) (hm : mg "_law_any" = some (.ref f)) (hb : Binds K fd ["hand", "some"] []) (G__law_draw : Callee P w K mg base T "_law_draw" 2 2 F__law_draw) : Callee P w K mg base T "_law_any" 2 3 F__law_any := by
  have nd := sc__law_any.nd
  exact Callee.mk' F sc__law_any rfl hm hb fun cdv A outer s H E hr => (db_one (ds_ret (de_ix ix_all (dw_var 1) (DE.hold (de_fn G__law_draw hr (da_cons (dw_var 0) (da_cons (DE.hold (de_callB cd_len g.n_len (da_cons (dw_var 1) da_nil))) da_nil)))))))
/-! ### _law_word_of -/
abbrev st__law_word_of : Stmt := topS 30
def N__law_word_of : List Str := ["call", "word"]
theorem sc__law_word_of : FnScope N__law_word_of ["call"] (defScope st__law_word_of) := ⟨rfl, rfl, rfl, by decide +kernel, rfl, by decide +kernel, by decide +kernel⟩
def B__law_word_of (f : Addr) (th : Mem → Rs R) : SC :=
  (sCons (sSet 1 (cK (.str "let")))
  (sCons (sTry sub (sExpr (cThunk 0 f th)) [("NoCode", (sSet 1 (cK (.str "code")))), ("NoText", (sSet 1 (cK (.str "text")))), ("EmberError", (sSet 1 (cK (.str "other"))))])
  (sRet (cV 1))))
def P__law_word_of (th : Mem → Rs R) (μ : Mem) : Rs R := expo μ.length (B__law_word_of 0 th (some (.o 0) :: List.replicate (N__law_word_of.length - 1) none) μ)
theorem D__law_word_of {X0 : Cx} {k : Nat} {cdv : Value} {gA : Addr} {s : Shared} {H : Hp} {f : Addr} {T : Tb} {th : Mem → Rs R} (hr : Room (k + 1) (X0.A.deeper (envOfC "_law_word_of" (defScope st__law_word_of) s.heap.objs.size gA cdv))) (g : G X0.mg) (act : ∀ pn xe p1 p2, DE ((SX' X0 N__law_word_of "_law_word_of" (defScope st__law_word_of) gA cdv s H).tr pn xe) T (.Call (.Name "call" p1) [] [] p2) (cThunk 0 f th))
     (e_EmberError : Exc0 X0.K X0.mg "EmberError") (e_NoText : Exc0 X0.K X0.mg "NoText") (e_NoCode : Exc0 X0.K X0.mg "NoCode") (hsub : SubOk X0.K X0.mg sub) : DB (SX' X0 N__law_word_of "_law_word_of" (defScope st__law_word_of) gA cdv s H) T (defBody st__law_word_of) (B__law_word_of f th) := by
  have nd := sc__law_word_of.nd
  exact (db_cons (ds_set 1 nd dw_str)
  (db_cons (ds_try hsub (fun pn xe => (db_one (ds_expr (act _ _ _ _)))) (DH.cons (let ⟨C, h, _⟩ := e_NoCode.ex; ⟨C, h⟩) rfl (by decide) (fun _ _ _ => (db_one (ds_set 1 nd dw_str))) (DH.cons (let ⟨C, h, _⟩ := e_NoText.ex; ⟨C, h⟩) rfl (by decide) (fun _ _ _ => (db_one (ds_set 1 nd dw_str))) (DH.cons (let ⟨C, h, _⟩ := e_EmberError.ex; ⟨C, h⟩) rfl (by decide) (fun _ _ _ => (db_one (ds_set 1 nd dw_str))) DH.nil))))
  (db_one (ds_ret (DW.toE (dw_var 1))))))
/-! ### raw_beats -/
abbrev st_raw_beats : Stmt := topS 15
def N_raw_beats : List Str := ["code", "one"]
theorem sc_raw_beats : FnScope N_raw_beats ["code"] (defScope st_raw_beats) := ⟨rfl, rfl, rfl, by decide +kernel, rfl, by decide +kernel, by decide +kernel⟩
def C_raw_beats : SC :=
  (sRet (cMt "str" mJoin (cK (.str "00")) (cCons (cH (cLc (iAny (cV 0)) [1] (gN 1) cYes (cBin opMul (cK (.str "10")) (cV 1)))) cNil)))
def F_raw_beats : Fn := fnOf 2 C_raw_beats
theorem ok_raw_beats {P : Program} {w : World} {K : PySem.W.Frag} {mg : Str → Option Value} {base : Heap} {T : Tb} {f : Addr} {fd : FuncData} (g : G mg) (F : Fun K "raw_beats" "raw_beats" st_raw_beats f fd) (hm : mg "raw_beats" = some (.ref f)) (hb : Binds K fd ["code"] []) : Callee P w K mg base T "raw_beats" 1 1 F_raw_beats := by
  have nd := sc_raw_beats.nd
  exact Callee.mk' F sc_raw_beats rfl hm hb fun cdv A outer s H E hr => (db_one (ds_ret (de_mt md_join (let ⟨_, h⟩ := g.s_REST; dw_gStr h) (da_cons (DE.hold (de_lc nd (di_any (dw_var 0)) (blkOk_by (own := [("one", 1)]) (by kernel_rfl)) (fun _ _ _ _ _ => (dg_name 1 nd)) (fun _ _ _ _ _ => dts_nil) (fun _ _ _ _ _ => (de_bin (od_mul op_repL) (let ⟨_, h⟩ := g.s_BEAT; dw_gStr h) (dw_var 1))))) da_nil) PySem.F.plainAttrs_str PySem.F.slot_str_join PySem.F.type_str_join)))
/-! ### is_sized -/
abbrev st_is_sized : Stmt := topS 3
def N_is_sized : List Str := ["thing", "low", "high"]
theorem sc_is_sized : FnScope N_is_sized ["thing", "low", "high"] (defScope st_is_sized) := ⟨rfl, rfl, rfl, by decide +kernel, rfl, by decide +kernel, by decide +kernel⟩
def C_is_sized : SC :=
  (sRet (cAndV (cIsi "tuple" (cV 0)) (cChain opLe opLe (cV 1) (cH (cCall (one fLen) (cCons (cV 0) cNil))) (cV 2))))
def F_is_sized : Fn := fnOf 3 C_is_sized
theorem ok_is_sized {P : Program} {w : World} {K : PySem.W.Frag} {mg : Str → Option Value} {base : Heap} {T : Tb} {f : Addr} {fd : FuncData} (g : G mg) (F : Fun K "is_sized" "is_sized" st_is_sized f fd) (hm : mg "is_sized" = some (.ref f)) (hb : Binds K fd ["thing", "low", "high"] []) : Callee P w K mg base T "is_sized" 3 1 F_is_sized := by
  have nd := sc_is_sized.nd
  exact Callee.mk' F sc_is_sized rfl hm hb fun cdv A outer s H E hr => (db_one (ds_ret (de_and (de_isi (dw_var 0) g.n_isinstance g.n_tuple (by decide +kernel)) (de_one (de_chain od_le od_le (dw_var 1) (DE.hold (de_callB cd_len g.n_len (da_cons (dw_var 0) da_nil))) (dw_var 2))))))
/-! ### is_integer -/
abbrev st_is_integer : Stmt := topS 1
def N_is_integer : List Str := ["thing"]
theorem sc_is_integer : FnScope N_is_integer ["thing"] (defScope st_is_integer) := ⟨rfl, rfl, rfl, by decide +kernel, rfl, by decide +kernel, by decide +kernel⟩
def C_is_integer : SC :=
  (sRet (cAndV (cIsi "int" (cV 0)) (cNotV (cIsi "bool" (cV 0)))))
def F_is_integer : Fn := fnOf 1 C_is_integer
theorem ok_is_integer {P : Program} {w : World} {K : PySem.W.Frag} {mg : Str → Option Value} {base : Heap} {T : Tb} {f : Addr} {fd : FuncData} (g : G mg) (F : Fun K "is_integer" "is_integer" st_is_integer f fd) (hm : mg "is_integer" = some (.ref f)) (hb : Binds K fd ["thing"] []) : Callee P w K mg base T "is_integer" 1 1 F_is_integer := by
  have nd := sc_is_integer.nd
  exact Callee.mk' F sc_is_integer rfl hm hb fun cdv A outer s H E hr => (db_one (ds_ret (de_and (de_isi (dw_var 0) g.n_isinstance g.n_int (by decide +kernel)) (de_one (de_not (de_isi (dw_var 0) g.n_isinstance g.n_bool (by decide +kernel)))))))
/-! ### is_within -/
abbrev st_is_within : Stmt := topS 2
def N_is_within : List Str := ["thing", "low", "high"]
theorem sc_is_within : FnScope N_is_within ["thing", "low", "high"] (defScope st_is_within) := ⟨rfl, rfl, rfl, by decide +kernel, rfl, by decide +kernel, by decide +kernel⟩
def C_is_within : SC :=
  (sRet (cAndV (cFn 1 F_is_integer (cCons (cV 0) cNil)) (cChain opLe opLe (cV 1) (cV 0) (cV 2))))
def F_is_within : Fn := fnOf 3 C_is_within
theorem ok_is_within {P : Program} {w : World} {K : PySem.W.Frag} {mg : Str → Option Value} {base : Heap} {T : Tb} {f : Addr} {fd : FuncData} (g : G mg) (F : Fun K "is_within" "is_within" st_is_within f fd) (hm : mg "is_within" = some (.ref f)) (hb : Binds K fd ["thing", "low", "high"] []) (G_is_integer : Callee P w K mg base T "is_integer" 1 1 F_is_integer) : Callee P w K mg base T "is_within" 3 2 F_is_within := by
  have nd := sc_is_within.nd
  exact Callee.mk' F sc_is_within rfl hm hb fun cdv A outer s H E hr => (db_one (ds_ret (de_and (de_fn G_is_integer hr (da_cons (dw_var 0) da_nil)) (de_one (de_chain od_le od_le (dw_var 1) (dw_var 0) (dw_var 2))))))
/-! ### is_code -/
abbrev st_is_code : Stmt := topS 14
def N_is_code : List Str := ["thing", "one"]
theorem sc_is_code : FnScope N_is_code ["thing"] (defScope st_is_code) := ⟨rfl, rfl, rfl, by decide +kernel, rfl, by decide +kernel, by decide +kernel⟩
def C_is_code : SC :=
  (sRet (cAndV (cFn 3 F_is_sized (cCons (cV 0) (cCons (cK (.int 1)) (cCons (cK (.int 4)) cNil)))) (cCall (one (fBools fun bs => bs.all id)) (cCons (cH (cLc (iAny (cV 0)) [1] (gN 1) cYes (cFn 3 F_is_within (cCons (cV 1) (cCons (cK (.int 1)) (cCons (cK (.int 9)) cNil)))))) cNil))))
def F_is_code : Fn := fnOf 2 C_is_code
theorem ok_is_code {P : Program} {w : World} {K : PySem.W.Frag} {mg : Str → Option Value} {base : Heap} {T : Tb} {f : Addr} {fd : FuncData} (g : G mg) (F : Fun K "is_code" "is_code" st_is_code f fd) (hm : mg "is_code" = some (.ref f)) (hb : Binds K fd ["thing"] []) (G_is_sized : Callee P w K mg base T "is_sized" 3 1 F_is_sized) (G_is_within : Callee P w K mg base T "is_within" 3 2 F_is_within) : Callee P w K mg base T "is_code" 1 3 F_is_code := by
  have nd := sc_is_code.nd
  exact Callee.mk' F sc_is_code rfl hm hb fun cdv A outer s H E hr => (db_one (ds_ret (de_and (de_fn G_is_sized hr (da_cons (dw_var 0) (da_cons dw_int (da_cons (let ⟨_, h⟩ := g.i_MOST_NUMBERS; dw_gInt h) da_nil)))) (de_one (de_callB cd_all g.n_all (da_cons (DE.hold (de_lc nd (di_any (dw_var 0)) (blkOk_by (own := [("one", 1)]) (by kernel_rfl)) (fun _ _ _ _ _ => (dg_name 1 nd)) (fun _ _ _ _ _ => dts_nil) (fun _ _ _ _ _ => (de_fn G_is_within hr (da_cons (dw_var 1) (da_cons dw_int (da_cons (let ⟨_, h⟩ := g.i_MOST_BEATS; dw_gInt h) da_nil))))))) da_nil))))))
/-! ### beats_of -/
abbrev st_beats_of : Stmt := topS 16
def N_beats_of : List Str := ["code"]
theorem sc_beats_of : FnScope N_beats_of ["code"] (defScope st_beats_of) := ⟨rfl, rfl, rfl, by decide +kernel, rfl, by decide +kernel, by decide +kernel⟩
def C_beats_of : SC :=
  (sCons (sIf (cNotT (cT (cFn 1 F_is_code (cCons (cV 0) cNil))))
  (sRaise "NoCode")
  sNil)
  (sRet (cFn 1 F_raw_beats (cCons (cV 0) cNil))))
def F_beats_of : Fn := fnOf 1 C_beats_of
theorem ok_beats_of {P : Program} {w : World} {K : PySem.W.Frag} {mg : Str → Option Value} {base : Heap} {T : Tb} {f : Addr} {fd : FuncData} (g : G mg) (F : Fun K "beats_of" "beats_of" st_beats_of f fd) (hm : mg "beats_of" = some (.ref f)) (hb : Binds K fd ["code"] []) (G_is_code : Callee P w K mg base T "is_code" 1 3 F_is_code) (G_raw_beats : Callee P w K mg base T "raw_beats" 1 1 F_raw_beats) (e_NoCode : Exc0 K mg "NoCode") : Callee P w K mg base T "beats_of" 1 4 F_beats_of := by
  have nd := sc_beats_of.nd
  exact Callee.mk' F sc_beats_of rfl hm hb fun cdv A outer s H E hr => (db_cons (ds_if (dt_not (dt_val (de_fn G_is_code hr (da_cons (dw_var 0) da_nil))))
  (db_one (ds_raise e_NoCode))
  db_nil)
  (db_one (ds_ret (de_fn G_raw_beats hr (da_cons (dw_var 0) da_nil)))))
/-! ### is_beats -/
abbrev st_is_beats : Stmt := topS 17
def N_is_beats : List Str := ["thing", "sign"]
theorem sc_is_beats : FnScope N_is_beats ["thing"] (defScope st_is_beats) := ⟨rfl, rfl, rfl, by decide +kernel, rfl, by decide +kernel, by decide +kernel⟩
def C_is_beats : SC :=
  (sRet (cAndV (cIsi "str" (cV 0)) (cAndV (cBin opLe (cH (cCall (one fLen) (cCons (cV 0) cNil))) (cK (.int 400))) (cCall (one (fBools fun bs => bs.all id)) (cCons (cH (cLc (iAny (cV 0)) [1] (gN 1) cYes (cBin (opIn false) (cV 1) (cH (cCall opTup (cCons (cK (.str "0")) (cCons (cK (.str "1")) cNil))))))) cNil)))))
def F_is_beats : Fn := fnOf 2 C_is_beats
theorem ok_is_beats {P : Program} {w : World} {K : PySem.W.Frag} {mg : Str → Option Value} {base : Heap} {T : Tb} {f : Addr} {fd : FuncData} (g : G mg) (F : Fun K "is_beats" "is_beats" st_is_beats f fd) (hm : mg "is_beats" = some (.ref f)) (hb : Binds K fd ["thing"] []) : Callee P w K mg base T "is_beats" 1 1 F_is_beats := by
  have nd := sc_is_beats.nd
  exact Callee.mk' F sc_is_beats rfl hm hb fun cdv A outer s H E hr => (db_one (ds_ret (de_and (de_isi (dw_var 0) g.n_isinstance g.n_str (by decide +kernel)) (de_and (de_cmp od_le (DE.hold (de_callB cd_len g.n_len (da_cons (dw_var 0) da_nil))) (let ⟨_, h⟩ := g.i_MOST_TEXT; dw_gInt h)) (de_one (de_callB cd_all g.n_all (da_cons (DE.hold (de_lc nd (di_any (dw_var 0)) (blkOk_by (own := [("sign", 1)]) (by kernel_rfl)) (fun _ _ _ _ _ => (dg_name 1 nd)) (fun _ _ _ _ _ => dts_nil) (fun _ _ _ _ _ => (de_cmp (od_in hr) (dw_var 1) (DE.hold (de_tup (da_cons dw_str (da_cons dw_str da_nil)))))))) da_nil)))))))
/-! ### code_by_beats -/
abbrev st_code_by_beats : Stmt := topS 18
def N_code_by_beats : List Str := ["text", "parts", "code", "part"]
theorem sc_code_by_beats : FnScope N_code_by_beats ["text"] (defScope st_code_by_beats) := ⟨rfl, rfl, rfl, by decide +kernel, rfl, by decide +kernel, by decide +kernel⟩
def C_code_by_beats : SC :=
  (sCons (sIf (cNotT (cT (cFn 1 F_is_beats (cCons (cV 0) cNil))))
  (sRaise "NoText")
  sNil)
  (sCons (sSet 1 (cH (cSl (cH (cLc (iAny (cH (cMt "str" mSplit (cH (cBin opAdd (cV 0) (cK (.str "00")))) (cCons (cH (cBin opAdd (cK (.str "10")) (cK (.str "00")))) cNil)))) [3] (gN 3) cYes (cBin opDiv (cH (cCall (one fLen) (cCons (cV 3) cNil))) (cK (.int 2))))) cNoPart (cPart (cNeg (cK (.int 1)))))))
  (sCons (sSet 2 (cH (cCall (one fTup) (cCons (cH (cLc (iAny (cV 1)) [3] (gN 3) cYes (cBin opAdd (cV 3) (cK (.int 1))))) cNil))))
  (sRet (cIf (cAndT (cT (cFn 1 F_is_code (cCons (cV 2) cNil))) (cT (cBin (opEq false) (cH (cFn 1 F_raw_beats (cCons (cV 2) cNil))) (cV 0)))) (cV 2) (cK .none))))))
def F_code_by_beats : Fn := fnOf 4 C_code_by_beats
theorem ok_code_by_beats {P : Program} {w : World} {K : PySem.W.Frag} {mg : Str → Option Value} {base : Heap} {T : Tb} {f : Addr} {fd : FuncData} (g : G mg) (F : Fun K "code_by_beats" "code_by_beats" st_code_by_beats f fd) (hm : mg "code_by_beats" = some (.ref f)) (hb : Binds K fd ["text"] []) (G_is_beats : Callee P w K mg base T "is_beats" 1 1 F_is_beats) (G_is_code : Callee P w K mg base T "is_code" 1 3 F_is_code) (G_raw_beats : Callee P w K mg base T "raw_beats" 1 1 F_raw_beats) (e_NoText : Exc0 K mg "NoText") : Callee P w K mg base T "code_by_beats" 1 4 F_code_by_beats := by
  have nd := sc_code_by_beats.nd
  exact Callee.mk' F sc_code_by_beats rfl hm hb fun cdv A outer s H E hr => (db_cons (ds_if (dt_not (dt_val (de_fn G_is_beats hr (da_cons (dw_var 0) da_nil))))
  (db_one (ds_raise e_NoText))
  db_nil)
  (db_cons (ds_set 1 nd (DE.hold (de_sl (DE.hold (de_lc nd (di_any (DE.hold (de_mt md_split (DE.hold (de_bin od_add (dw_var 0) (let ⟨_, h⟩ := g.s_REST; dw_gStr h))) (da_cons (DE.hold (de_bin od_add (let ⟨_, h⟩ := g.s_BEAT; dw_gStr h) (let ⟨_, h⟩ := g.s_REST; dw_gStr h))) da_nil) PySem.F.plainAttrs_str PySem.F.slot_str_split PySem.F.type_str_split))) (blkOk_by (own := [("part", 3)]) (by kernel_rfl)) (fun _ _ _ _ _ => (dg_name 3 nd)) (fun _ _ _ _ _ => dts_nil) (fun _ _ _ _ _ => (de_bin od_div (DE.hold (de_callB cd_len g.n_len (da_cons (dw_var 3) da_nil))) dw_int)))) dp_none (dp_some (de_neg (DW.toE dw_int))))))
  (db_cons (ds_set 2 nd (DE.hold (de_callTy cd_tuple g.n_tuple (da_cons (DE.hold (de_lc nd (di_any (dw_var 1)) (blkOk_by (own := [("part", 3)]) (by kernel_rfl)) (fun _ _ _ _ _ => (dg_name 3 nd)) (fun _ _ _ _ _ => dts_nil) (fun _ _ _ _ _ => (de_bin od_add (dw_var 3) dw_int)))) da_nil))))
  (db_one (ds_ret (de_if (DU.t (du_and (dt_val (de_fn G_is_code hr (da_cons (dw_var 2) da_nil))) (du_and1 (dt_cmp (od_eq hr) (DE.hold (de_fn G_raw_beats hr (da_cons (dw_var 2) da_nil))) (dw_var 0))))) (DW.toE (dw_var 2)) (DW.toE dw_non)))))))
/-! ### _law_read -/
abbrev st__law_read : Stmt := topS 31
def N__law_read : List Str := ["text", "parts", "found", "part", "code"]
theorem sc__law_read : FnScope N__law_read ["text"] (defScope st__law_read) := ⟨rfl, rfl, rfl, by decide +kernel, rfl, by decide +kernel, by decide +kernel⟩
def C__law_read : SC :=
  (sCons (sSet 1 (cD (cLc (iAny (cH (cMt "str" mSplit (cH (cBin opAdd (cV 0) (cK (.str "00")))) (cCons (cK (.str "1000")) cNil)))) [3] (gN 3) cYes (cV 3))))
  (sCons (sSet 2 (cA (cCall opLst cNil)))
  (sCons (sFor (iAny (cH (cSl (cV 1) cNoPart (cPart (cNeg (cK (.int 1))))))) (gN 3)
  (sCons (sIf (cT (cBin (opEq true) (cV 3) (cH (cBin opMul (cK (.str "10")) (cH (cBin opDiv (cH (cCall (one fLen) (cCons (cV 3) cNil))) (cK (.int 2))))))))
  (sRet (cK .none))
  sNil)
  (sExpr (cMt "list" mAppend (cV 2) (cCons (cD (cBin opAdd (cH (cBin opDiv (cH (cCall (one fLen) (cCons (cV 3) cNil))) (cK (.int 2)))) (cK (.int 1)))) cNil)))))
  (sCons (sSet 4 (cH (cCall (one fTup) (cCons (cV 2) cNil))))
  (sRet (cIf (cAndT (cT (cBin (opEq false) (cH (cBin opIx (cV 1) (cH (cNeg (cK (.int 1)))))) (cK (.str "")))) (cAndT (cT (cChain opLe opLe (cK (.int 1)) (cH (cCall (one fLen) (cCons (cV 4) cNil))) (cK (.int 4)))) (cAndT (cT (cBin opLe (cH (cCall (one (fBest max)) (cCons (cV 4) cNil))) (cK (.int 9)))) (cT (cBin (opEq false) (cH (cFn 1 F__law_beats (cCons (cV 4) cNil))) (cV 0)))))) (cV 4) (cK .none)))))))
def F__law_read : Fn := fnOf 5 C__law_read
theorem ok__law_read {P : Program} {w : World} {K : PySem.W.Frag} {mg : Str → Option Value} {base : Heap} {T : Tb} {f : Addr} {fd : FuncData} (g : G mg) (F : Fun K "_law_read" "_law_read" st__law_read f fd) (hm : mg "_law_read" = some (.ref f)) (hb : Binds K fd ["text"] []) (G__law_beats : Callee P w K mg base T "_law_beats" 1 1 F__law_beats) : Callee P w K mg base T "_law_read" 1 2 F__law_read := by
  have nd := sc__law_read.nd
  exact Callee.mk' F sc__law_read rfl hm hb fun cdv A outer s H E hr => (db_cons (ds_setLc 1 cD (.inr rfl) nd (di_any (DE.hold (de_mt md_split (DE.hold (de_bin od_add (dw_var 0) dw_str)) (da_cons dw_str da_nil) PySem.F.plainAttrs_str PySem.F.slot_str_split PySem.F.type_str_split))) (blkOk_by (own := [("part", 3)]) (by kernel_rfl)) (fun _ _ _ _ _ => (dg_name 3 nd)) (fun _ _ _ _ _ => dts_nil) (fun _ _ _ _ _ => (DW.toE (dw_var 3))))
  (db_cons (ds_set 2 nd (DE.adopt (de_lst da_nil)))
  (db_cons (ds_for (di_any (DE.hold (de_sl (dw_var 1) dp_none (dp_some (de_neg (DW.toE dw_int)))))) (dg_name 3 nd)
  (db_cons (ds_if (dt_cmp (od_ne hr) (dw_var 3) (DE.hold (de_bin (od_mul op_repL) dw_str (DE.hold (de_bin od_div (DE.hold (de_callB cd_len g.n_len (da_cons (dw_var 3) da_nil))) dw_int)))))
  (db_one (ds_ret (DW.toE dw_non)))
  db_nil)
  (db_one (ds_expr (de_mt md_append (dw_var 2) (da_cons (DE.data (de_bin od_add (DE.hold (de_bin od_div (DE.hold (de_callB cd_len g.n_len (da_cons (dw_var 3) da_nil))) dw_int)) dw_int)) da_nil) PySem.F.plainAttrs_list PySem.F.slot_list_append PySem.F.type_list_append)))))
  (db_cons (ds_set 4 nd (DE.hold (de_callTy cd_tuple g.n_tuple (da_cons (dw_var 2) da_nil))))
  (db_one (ds_ret (de_if (DU.t (du_and (dt_cmp (od_eq hr) (DE.hold (de_ix ix_all (dw_var 1) (DE.hold (de_neg (DW.toE dw_int))))) dw_str) (du_and (dt_chain od_le od_le dw_int (DE.hold (de_callB cd_len g.n_len (da_cons (dw_var 4) da_nil))) dw_int) (du_and (dt_cmp od_le (DE.hold (de_callB (cd_max1 hr) g.n_max (da_cons (dw_var 4) da_nil))) dw_int) (du_and1 (dt_cmp (od_eq hr) (DE.hold (de_fn G__law_beats hr (da_cons (dw_var 4) da_nil))) (dw_var 0))))))) (DW.toE (dw_var 4)) (DW.toE dw_non))))))))
/-! ### law -/
abbrev st_law : Stmt := topS 32
def N_law : List Str := ["script", "hand", "turn", "code", "text", "at", "sign", "some", "bent", "none", "bad", "words", "again"]
theorem sc_law : FnScope N_law ["script"] (defScope st_law) := ⟨rfl, rfl, rfl, by decide +kernel, rfl, by decide +kernel, by decide +kernel⟩
def C_law : SC :=
  (sCons (sSet 1 (cA (cFn 1 F__law_hand (cCons (cV 0) cNil))))
  (sCons (sFor (iR1 (cK (.int 8))) (gN 2)
  (sCons (sSet 3 (cH (cCall (one fTup) (cCons (cH (cLc (iR1 (cH (cBin opAdd (cK (.int 1)) (cH (cFn 2 F__law_draw (cCons (cV 1) (cCons (cK (.int 4)) cNil))))))) [12] (gN 12) cYes (cBin opAdd (cK (.int 1)) (cH (cFn 2 F__law_draw (cCons (cV 1) (cCons (cK (.int 9)) cNil))))))) cNil))))
  (sCons (sSet 4 (cH (cFn 1 F__law_beats (cCons (cV 3) cNil))))
  (sCons (sIf (cOrT (cT (cBin (opEq true) (cH (cFn 1 F_beats_of (cCons (cV 3) cNil))) (cV 4))) (cT (cBin (opEq true) (cH (cFn 1 F_code_by_beats (cCons (cV 4) cNil))) (cV 3))))
  (sRet (cK (.bool false)))
  sNil)
  (sCons (sPar 5 6 (cH (cFn 2 F__law_draw (cCons (cV 1) (cCons (cH (cCall (one fLen) (cCons (cV 4) cNil))) cNil)))) (cH (cFn 2 F__law_any (cCons (cV 1) (cCons (cH (cCall opLst (cCons (cK (.str "0")) (cCons (cK (.str "1")) (cCons (cK (.str "")) (cCons (cK (.str "10")) (cCons (cK (.str "00")) cNil))))))) cNil)))))
  (sCons (sSet 7 (cH (cCall opLst (cCons (cD (cBin opAdd (cH (cBin opAdd (cH (cSl (cV 4) cNoPart (cPart (cV 5)))) (cV 6))) (cH (cSl (cV 4) (cPart (cBin opAdd (cV 5) (cK (.int 1)))) cNoPart)))) (cCons (cD (cBin opAdd (cV 4) (cK (.str "0")))) (cCons (cD (cSl (cV 4) (cPart (cK (.int 1))) cNoPart)) (cCons (cD (cBin opAdd (cV 4) (cV 4))) (cCons (cD (cBin opMul (cK (.str "10")) (cK (.int 12)))) (cCons (cK (.str "")) (cCons (cD (cBin opAdd (cH (cBin opAdd (cV 4) (cK (.str "00")))) (cV 4))) cNil))))))))))
  (sCons (sFor (iAny (cV 7)) (gN 8)
  (sIf (cT (cBin (opEq true) (cH (cFn 1 F_code_by_beats (cCons (cV 8) cNil))) (cH (cFn 1 F__law_read (cCons (cV 8) cNil)))))
  (sRet (cK (.bool false)))
  sNil))
  (sCons (sSet 9 (cH (cFn 2 F__law_any (cCons (cV 1) (cCons (cH (cCall opLst (cCons (cK .none) (cCons (cD (cCall opTup cNil)) (cCons (cD (cCall opTup (cCons (cK (.int 0)) cNil))) (cCons (cD (cCall opTup (cCons (cK (.int 10)) cNil))) (cCons (cD (cCall opLst (cCons (cK (.int 1)) cNil))) (cCons (cD (cCall opTup (cCons (cK (.int 1)) (cCons (cK (.int 1)) (cCons (cK (.int 1)) (cCons (cK (.int 1)) (cCons (cK (.int 1)) cNil))))))) (cCons (cD (cCall opTup (cCons (cK (.bool true)) cNil))) (cCons (cK (.str "1")) (cCons (cK (.int 0)) (cCons (cD (cCall opTup (cCons (cK .none) cNil))) cNil)))))))))))) cNil)))))
  (sCons (sSet 10 (cH (cFn 2 F__law_any (cCons (cV 1) (cCons (cH (cCall opLst (cCons (cK .none) (cCons (cK (.int 0)) (cCons (cK (.str "2")) (cCons (cK (.str "1 0")) (cCons (cD (cCall opLst (cCons (cK (.str "1")) (cCons (cK (.str "0")) cNil)))) (cCons (cD (cBin opMul (cK (.str "10")) (cK (.int 201)))) (cCons (cD (cCall opTup (cCons (cK (.str "10")) cNil))) (cCons (cK (.str "1O")) cNil)))))))))) cNil)))))
  (sCons (sSet 11 (cA (cCall opLst (cCons (cD (cLam P__law_word_of (cFn 1 F_beats_of (cCons (cV 9) cNil)))) cNil))))
  (sCons (sExpr (cMt "list" mAppend (cV 11) (cCons (cD (cLam P__law_word_of (cFn 1 F_code_by_beats (cCons (cV 10) cNil)))) cNil)))
  (sIf (cT (cBin (opEq true) (cV 11) (cH (cCall opLst (cCons (cK (.str "code")) (cCons (cK (.str "text")) cNil))))))
  (sRet (cK (.bool false)))
  sNil))))))))))))
  (sRet (cAndV (cBin (opEq false) (cH (cFn 1 F_beats_of (cCons (cH (cCall opTup (cCons (cK (.int 2)) (cCons (cK (.int 1)) cNil)))) cNil))) (cK (.str "10100010"))) (cAndV (cBin (opIsN false) (cH (cFn 1 F_code_by_beats (cCons (cK (.str "1000")) cNil))) (cK .none)) (cBin (opEq false) (cH (cFn 1 F_code_by_beats (cCons (cK (.str "10")) cNil))) (cH (cCall opTup (cCons (cK (.int 1)) cNil)))))))))
def F_law : Fn := fnOf 13 C_law
theorem psi__law_word_of : ∀ f th μ, expo μ.length (B__law_word_of f th (some (.o f) :: List.replicate (N__law_word_of.length - 1) none) μ) = P__law_word_of th μ := by
  intro f th μ
  unfold P__law_word_of B__law_word_of
  simp only [sCons, sTry, sExpr, sSet, sRet, sIf, cThunk, cV, cK, cT, Rs.thenS, Rs.bind, noX, pick, expo, List.getElem?_cons_zero, if_pos, List.replicate, List.set]
  first | rfl | (cases th μ with | ok r μ1 => rfl | no => rfl | ex x μ1 => (simp only [pick]; generalize sub x.cls (Str.ofString "NoCode") = q0; generalize sub x.cls (Str.ofString "NoText") = q1; generalize sub x.cls (Str.ofString "EmberError") = q2; rcases q0 with _ | _ | _ <;> rcases q1 with _ | _ | _ <;> rcases q2 with _ | _ | _ <;> rfl))
theorem ok_law {P : Program} {w : World} {K : PySem.W.Frag} {mg : Str → Option Value} {base : Heap} {T : Tb} (g : G mg) (G__law_hand : Callee P w K mg base T "_law_hand" 1 1 F__law_hand) (G__law_draw : Callee P w K mg base T "_law_draw" 2 2 F__law_draw) (G__law_beats : Callee P w K mg base T "_law_beats" 1 1 F__law_beats) (G_beats_of : Callee P w K mg base T "beats_of" 1 4 F_beats_of) (G_code_by_beats : Callee P w K mg base T "code_by_beats" 1 4 F_code_by_beats) (G__law_any : Callee P w K mg base T "_law_any" 2 3 F__law_any) (G__law_read : Callee P w K mg base T "_law_read" 1 2 F__law_read) (e_EmberError : Exc0 K mg "EmberError") (e_NoText : Exc0 K mg "NoText") (e_NoCode : Exc0 K mg "NoCode") (hsub : SubOk K mg sub) {g__law_word_of : Addr} {cdv__law_word_of kV__law_word_of doc__law_word_of pm__law_word_of ct__law_word_of oc__law_word_of : Value} {an__law_word_of od__law_word_of : Option Addr} {osl__law_word_of : Array (Option Value)} (m__law_word_of : mg "_law_word_of" = some (.ref g__law_word_of)) (k__law_word_of : PySem.W.keepIn K (.ref g__law_word_of) = true) (l__law_word_of : K.lookup g__law_word_of = some ⟨oc__law_word_of, od__law_word_of, .func (PySem.W.fnOf "_law_word_of" "_law_word_of" (defArgs st__law_word_of) (defBody st__law_word_of) (defScope st__law_word_of) .none kV__law_word_of doc__law_word_of pm__law_word_of an__law_word_of cdv__law_word_of ct__law_word_of), osl__law_word_of⟩) (c__law_word_of : PySem.W.codeIn K cdv__law_word_of "_law_word_of" = true) (b__law_word_of : L2.Binds K (PySem.W.fnOf "_law_word_of" "_law_word_of" (defArgs st__law_word_of) (defBody st__law_word_of) (defScope st__law_word_of) .none kV__law_word_of doc__law_word_of pm__law_word_of an__law_word_of cdv__law_word_of ct__law_word_of) ["call"] []) {fa c Pt : Addr} {kV doc pm ct oc : Value} {an od : Option Addr} {osl : Array (Option Value)} (lk : K.lookup fa = some ⟨oc, od, .func (PySem.W.fnOf "law" "law" (defArgs st_law) (defBody st_law) (defScope st_law) .none kV doc pm an (.ref c) ct), osl⟩) (hcd : PySem.W.codeIn K (.ref c) "law" = true)
    (TB : LamX.TabB base mg c Pt) (hmT : (Pt, lamQ "law") ∈ T.tabs) (hu : ∀ p ∈ T.tabs, p.1 = Pt → p.2 = lamQ "law") : FnOk P w K mg base (L2.CX P w) 7 fa (PySem.W.fnOf "law" "law" (defArgs st_law) (defBody st_law) (defScope st_law) .none kV doc pm an (.ref c) ct) ["script"] (spOf T K mg 1 F_law) := by
  have nd := sc_law.nd
  exact fnC lk hcd sc_law rfl fun A outer s H E hr => (db_cons (ds_set 1 nd (DE.adopt (de_fn G__law_hand hr (da_cons (dw_var 0) da_nil))))
  (db_cons (ds_for (di_range1 g.n_range dw_int) (dg_name 2 nd)
  (db_cons (ds_set 3 nd (DE.hold (de_callTy cd_tuple g.n_tuple (da_cons (DE.hold (de_lc nd (di_range1 g.n_range (DE.hold (de_bin od_add dw_int (DE.hold (de_fn G__law_draw hr (da_cons (dw_var 1) (da_cons dw_int da_nil))))))) (blkOk_by (own := [("again", 12)]) (by kernel_rfl)) (fun _ _ _ _ _ => (dg_name 12 nd)) (fun _ _ _ _ _ => dts_nil) (fun _ _ _ _ _ => (de_bin od_add dw_int (DE.hold (de_fn G__law_draw hr (da_cons (dw_var 1) (da_cons dw_int da_nil)))))))) da_nil))))
  (db_cons (ds_set 4 nd (DE.hold (de_fn G__law_beats hr (da_cons (dw_var 3) da_nil))))
  (db_cons (ds_if (DU.t (du_or (dt_cmp (od_ne hr) (DE.hold (de_fn G_beats_of hr (da_cons (dw_var 3) da_nil))) (dw_var 4)) (du_or1 (dt_cmp (od_ne hr) (DE.hold (de_fn G_code_by_beats hr (da_cons (dw_var 4) da_nil))) (dw_var 3)))))
  (db_one (ds_ret (DW.toE dw_bl)))
  db_nil)
  (db_cons (ds_par 5 6 nd (DE.hold (de_fn G__law_draw hr (da_cons (dw_var 1) (da_cons (DE.hold (de_callB cd_len g.n_len (da_cons (dw_var 4) da_nil))) da_nil)))) (DE.hold (de_fn G__law_any hr (da_cons (dw_var 1) (da_cons (DE.hold (de_lst (da_cons dw_str (da_cons dw_str (da_cons dw_str (da_cons dw_str (da_cons dw_str da_nil))))))) da_nil)))))
  (db_cons (ds_set 7 nd (DE.hold (de_lst (da_cons (DE.data (de_bin od_add (DE.hold (de_bin od_add (DE.hold (de_sl (dw_var 4) dp_none (dp_some (DW.toE (dw_var 5))))) (dw_var 6))) (DE.hold (de_sl (dw_var 4) (dp_some (de_bin od_add (dw_var 5) dw_int)) dp_none)))) (da_cons (DE.data (de_bin od_add (dw_var 4) dw_str)) (da_cons (DE.data (de_sl (dw_var 4) (dp_some (DW.toE dw_int)) dp_none)) (da_cons (DE.data (de_bin od_add (dw_var 4) (dw_var 4))) (da_cons (DE.data (de_bin (od_mul op_repL) dw_str dw_int)) (da_cons dw_str (da_cons (DE.data (de_bin od_add (DE.hold (de_bin od_add (dw_var 4) dw_str)) (dw_var 4))) da_nil))))))))))
  (db_cons (ds_for (di_any (dw_var 7)) (dg_name 8 nd)
  (db_one (ds_if (dt_cmp (od_ne hr) (DE.hold (de_fn G_code_by_beats hr (da_cons (dw_var 8) da_nil))) (DE.hold (de_fn G__law_read hr (da_cons (dw_var 8) da_nil))))
  (db_one (ds_ret (DW.toE dw_bl)))
  db_nil)))
  (db_cons (ds_set 9 nd (DE.hold (de_fn G__law_any hr (da_cons (dw_var 1) (da_cons (DE.hold (de_lst (da_cons dw_non (da_cons (DE.data (de_tup da_nil)) (da_cons (DE.data (de_tup (da_cons dw_int da_nil))) (da_cons (DE.data (de_tup (da_cons dw_int da_nil))) (da_cons (DE.data (de_lst (da_cons dw_int da_nil))) (da_cons (DE.data (de_tup (da_cons dw_int (da_cons dw_int (da_cons dw_int (da_cons dw_int (da_cons dw_int da_nil))))))) (da_cons (DE.data (de_tup (da_cons dw_bl da_nil))) (da_cons dw_str (da_cons dw_int (da_cons (DE.data (de_tup (da_cons dw_non da_nil))) da_nil)))))))))))) da_nil)))))
  (db_cons (ds_set 10 nd (DE.hold (de_fn G__law_any hr (da_cons (dw_var 1) (da_cons (DE.hold (de_lst (da_cons dw_non (da_cons dw_int (da_cons dw_str (da_cons dw_str (da_cons (DE.data (de_lst (da_cons dw_str (da_cons dw_str da_nil)))) (da_cons (DE.data (de_bin (od_mul op_repL) dw_str dw_int)) (da_cons (DE.data (de_tup (da_cons dw_str da_nil))) (da_cons dw_str da_nil)))))))))) da_nil)))))
  (db_cons (ds_set 11 nd (DE.adopt (de_lst (da_cons (DE.data (de_lam (ψ := P__law_word_of) (cb := B__law_word_of) (Ng := N__law_word_of) (k := 4) m__law_word_of k__law_word_of l__law_word_of c__law_word_of b__law_word_of sc__law_word_of rfl (by first | exact Or.inl rfl | exact Or.inr (Or.inl rfl)) TB rfl (by exact hmT) (by exact hu) (hr.mono (by decide)) (LamX.lamS_by (by kernel_rfl)) (by rfl) (fun _ _ _ _ _ => rfl) (fun A2 outer2 s2 H2 E2 f2 c2 hr2 => (de_fn G_beats_of hr2 (da_cons (dw_var 9) da_nil))) (fun s2 H2 f th T2 hr2 act => D__law_word_of hr2 g (by exact act) e_EmberError e_NoText e_NoCode hsub) (psi__law_word_of))) da_nil))))
  (db_cons (ds_expr (de_mt md_append (dw_var 11) (da_cons (DE.data (de_lam (ψ := P__law_word_of) (cb := B__law_word_of) (Ng := N__law_word_of) (k := 4) m__law_word_of k__law_word_of l__law_word_of c__law_word_of b__law_word_of sc__law_word_of rfl (by first | exact Or.inl rfl | exact Or.inr (Or.inl rfl)) TB rfl (by exact hmT) (by exact hu) (hr.mono (by decide)) (LamX.lamS_by (by kernel_rfl)) (by rfl) (fun _ _ _ _ _ => rfl) (fun A2 outer2 s2 H2 E2 f2 c2 hr2 => (de_fn G_code_by_beats hr2 (da_cons (dw_var 10) da_nil))) (fun s2 H2 f th T2 hr2 act => D__law_word_of hr2 g (by exact act) e_EmberError e_NoText e_NoCode hsub) (psi__law_word_of))) da_nil) PySem.F.plainAttrs_list PySem.F.slot_list_append PySem.F.type_list_append))
  (db_one (ds_if (dt_cmp (od_ne hr) (dw_var 11) (DE.hold (de_lst (da_cons dw_str (da_cons dw_str da_nil)))))
  (db_one (ds_ret (DW.toE dw_bl)))
  db_nil)))))))))))))
  (db_one (ds_ret (de_and (de_cmp (od_eq hr) (DE.hold (de_fn G_beats_of hr (da_cons (DE.hold (de_tup (da_cons dw_int (da_cons dw_int da_nil)))) da_nil))) dw_str) (de_and (de_cmp od_isN (DE.hold (de_fn G_code_by_beats hr (da_cons dw_str da_nil))) dw_non) (de_one (de_cmp (od_eq hr) (DE.hold (de_fn G_code_by_beats hr (da_cons dw_str da_nil))) (DE.hold (de_tup (da_cons dw_int da_nil)))))))))))
end L52
set_option maxRecDepth 100000
set_option maxHeartbeats 400000
namespace L52
open PySem PySem.Spec PyProof.Rows L2 Em
/-! ### drawing -/
def HandOk (ds : List D) : Prop := ∃ (cells : List Int) (a l t : Int), ds = [.list (cells.map .int), .int a, .int l, .int t] ∧ cells.length ≤ 63
def mixV (c t : Int) : Int :=
  let n1 := ((c % 2147483647 + 7919 * t + 1) * 48271) % 2147483647
  let n2 := (n1 * (n1 / 1009 + 69621)) % 2147483647
  (n2 * (n2 / 2003 + 40692)) % 2147483399 / 16
theorem mixed_ok (c t : Int) (μ : Mem) : F__law_mixed [.d (.int c), .d (.int t)] μ = .ok (.d (.int (mixV c t))) μ := by
  simp only [F__law_mixed, C__law_mixed, cV_, cK_, cBin_, cCall_, cCons_, cNil_, cH_, cD_, cA_, cT_, cIf_, cAndT_, cOrT_, cNotT_, cAndV_, cOrV_, cNotV_, cChain_, cSl_, cPart_, cNoPart_, cMt_, cIsi_, cNeg_, cFn_, sNil_, sCons_, sIf_, sSet_, sPar_, sExpr_, sRet_, sRetN_, sRaise_, sBrk_, sCnt_, sStore_, fnOf_, iAny_, iR1_, iR2_, iEn_, gN_, gT_, gsN_, gsC_, stepS_, cYes_, lcF_, bT, iP, isTy, tyName, opTup, opLst, opAdd, opII, cDivB, opMul, opOrd, opEq, kD_nn, kD_ii, kD_bb, kD_ss, kD_ni, kD_nb, kD_ns, kD_in, kD_bn, kD_sn, kD_is, kD_si, kD_bs, kD_sb, kD_tuple1, kD_tuple2, kD_list1, kD_list2, kD_ib, kD_bi, opIsN, opIx, opSl, one, fLen, fInt, fAbs, fTup, fList, see, hold, toD, adopt, Rs.bind, Rs.thenS, opStore, expo, itmOf, wipeR, mAppend, mExtend, List.getElem?_cons_zero, List.getElem?_cons_succ, List.map_cons, List.map_nil, List.length_cons, List.length_nil, List.cons_append, List.nil_append, List.replicate_succ, List.replicate_zero, List.set_cons_zero, List.set_cons_succ, Nat.zero_add, Nat.reduceAdd, Nat.reduceSub, ↓reduceIte, reduceCtorEq, String.reduceBEq, kb_NoneType_int, kb_NoneType_bool, kb_NoneType_str, kb_NoneType_tuple, kb_NoneType_list, kb_NoneType_dict, kb_bool_int, kb_bool_bool, kb_bool_str, kb_bool_tuple, kb_bool_list, kb_bool_dict, kb_int_int, kb_int_bool, kb_int_str, kb_int_tuple, kb_int_list, kb_int_dict, kb_str_int, kb_str_bool, kb_str_str, kb_str_tuple, kb_str_list, kb_str_dict, kb_list_int, kb_list_bool, kb_list_str, kb_list_tuple, kb_list_list, kb_list_dict, kb_tuple_int, kb_tuple_bool, kb_tuple_str, kb_tuple_tuple, kb_tuple_list, kb_tuple_dict, kb_dict_int, kb_dict_bool, kb_dict_str, kb_dict_tuple, kb_dict_list, kb_dict_dict, String.reduceEq, Int.reduceLT, Int.reduceLE, Int.reduceNeg, Int.reducePow, Nat.reducePow, Int.reduceToNat, Nat.reduceLT, Nat.reduceLeDiff, decide_true, decide_false, and_self, and_true, true_and, or_true, true_or, or_false, false_or, Bool.not_true, Bool.not_false, Bool.true_eq_false, Bool.false_eq_true, Option.map_some, Option.map_none, List.take_length]
  repeat (rw [if_pos (by omega)]; simp only [cV_, cK_, cBin_, cCall_, cCons_, cNil_, cH_, cD_, cA_, cT_, cIf_, cAndT_, cOrT_, cNotT_, cAndV_, cOrV_, cNotV_, cChain_, cSl_, cPart_, cNoPart_, cMt_, cIsi_, cNeg_, cFn_, sNil_, sCons_, sIf_, sSet_, sPar_, sExpr_, sRet_, sRetN_, sRaise_, sBrk_, sCnt_, sStore_, fnOf_, iAny_, iR1_, iR2_, iEn_, gN_, gT_, gsN_, gsC_, stepS_, cYes_, lcF_, bT, iP, isTy, tyName, opTup, opLst, opAdd, opII, cDivB, opMul, opOrd, opEq, kD_nn, kD_ii, kD_bb, kD_ss, kD_ni, kD_nb, kD_ns, kD_in, kD_bn, kD_sn, kD_is, kD_si, kD_bs, kD_sb, kD_tuple1, kD_tuple2, kD_list1, kD_list2, kD_ib, kD_bi, opIsN, opIx, opSl, one, fLen, fInt, fAbs, fTup, fList, see, hold, toD, adopt, Rs.bind, Rs.thenS, opStore, expo, itmOf, wipeR, mAppend, mExtend, List.getElem?_cons_zero, List.getElem?_cons_succ, List.map_cons, List.map_nil, List.length_cons, List.length_nil, List.cons_append, List.nil_append, List.replicate_succ, List.replicate_zero, List.set_cons_zero, List.set_cons_succ, Nat.zero_add, Nat.reduceAdd, Nat.reduceSub, ↓reduceIte, reduceCtorEq, String.reduceBEq, kb_NoneType_int, kb_NoneType_bool, kb_NoneType_str, kb_NoneType_tuple, kb_NoneType_list, kb_NoneType_dict, kb_bool_int, kb_bool_bool, kb_bool_str, kb_bool_tuple, kb_bool_list, kb_bool_dict, kb_int_int, kb_int_bool, kb_int_str, kb_int_tuple, kb_int_list, kb_int_dict, kb_str_int, kb_str_bool, kb_str_str, kb_str_tuple, kb_str_list, kb_str_dict, kb_list_int, kb_list_bool, kb_list_str, kb_list_tuple, kb_list_list, kb_list_dict, kb_tuple_int, kb_tuple_bool, kb_tuple_str, kb_tuple_tuple, kb_tuple_list, kb_tuple_dict, kb_dict_int, kb_dict_bool, kb_dict_str, kb_dict_tuple, kb_dict_list, kb_dict_dict, String.reduceEq, Int.reduceLT, Int.reduceLE, Int.reduceNeg, Int.reducePow, Nat.reducePow, Int.reduceToNat, Nat.reduceLT, Nat.reduceLeDiff, decide_true, decide_false, and_self, and_true, true_and, or_true, true_or, or_false, false_or, Bool.not_true, Bool.not_false, Bool.true_eq_false, Bool.false_eq_true, Option.map_some, Option.map_none, List.take_length])
  rfl
theorem draw_ok {n : Nat} {μ : Mem} {ds : List D} {m : Int} (h : μ[n]? = some (.lst ds)) (hk : HandOk ds) (h0 : 0 < m) (h1 : m < 1073741824) : ∃ (r : Int) (ds' : List D), F__law_draw [.c n, .d (.int m)] μ = .ok (.d (.int r)) (μ.set n (.lst ds')) ∧ HandOk ds' ∧ 0 ≤ r ∧ r < m := by
  obtain ⟨cells, a, l, t, rfl, hc⟩ := hk
  have g1 := fun c' => get_set (c' := c') h
  have p1 : ∀ x : Int, 0 ≤ x % m := fun x => Int.emod_nonneg _ (by omega)
  have p2 : ∀ x : Int, x % m < m := fun x => Int.emod_lt_of_pos _ h0
  have q3 : L2.ixN 4 3 = some 3 := rfl
  have q2 : L2.ixN 4 2 = some 2 := rfl
  have q1 : L2.ixN 4 1 = some 1 := rfl
  have e0 : μ.length = (μ.set n (.lst [])).length := List.length_set.symm
  have cdiv : decide (0 < m ∧ m < 1073741824) = true := decide_eq_true ⟨h0, h1⟩
  have cmod : decide (0 < m) = true := decide_eq_true h0
  have ab : ∀ x : Int, 0 ≤ x.natAbs := fun x => by omega
  have tk : ∀ c, List.take μ.length (μ.set n c) = μ.set n c := fun c => List.take_of_length_le (by rw [List.length_set]; exact Nat.le_refl _)
  by_cases hl : 0 < l
  · have hl' := decide_eq_true hl
    simp only [F__law_draw, C__law_draw, cV_, cK_, cBin_, cCall_, cCons_, cNil_, cH_, cD_, cA_, cT_, cIf_, cAndT_, cOrT_, cNotT_, cAndV_, cOrV_, cNotV_, cChain_, cSl_, cPart_, cNoPart_, cMt_, cIsi_, cNeg_, cFn_, sNil_, sCons_, sIf_, sSet_, sPar_, sExpr_, sRet_, sRetN_, sRaise_, sBrk_, sCnt_, sStore_, fnOf_, iAny_, iR1_, iR2_, iEn_, gN_, gT_, gsN_, gsC_, stepS_, cYes_, lcF_, bT, iP, isTy, tyName, opTup, opLst, opAdd, opII, cDivB, opMul, opOrd, opEq, kD_nn, kD_ii, kD_bb, kD_ss, kD_ni, kD_nb, kD_ns, kD_in, kD_bn, kD_sn, kD_is, kD_si, kD_bs, kD_sb, kD_tuple1, kD_tuple2, kD_list1, kD_list2, kD_ib, kD_bi, opIsN, opIx, opSl, one, fLen, fInt, fAbs, fTup, fList, see, hold, toD, adopt, Rs.bind, Rs.thenS, opStore, expo, itmOf, wipeR, mAppend, mExtend, List.getElem?_cons_zero, List.getElem?_cons_succ, List.map_cons, List.map_nil, List.length_cons, List.length_nil, List.cons_append, List.nil_append, List.replicate_succ, List.replicate_zero, List.set_cons_zero, List.set_cons_succ, Nat.zero_add, Nat.reduceAdd, Nat.reduceSub, ↓reduceIte, reduceCtorEq, String.reduceBEq, kb_NoneType_int, kb_NoneType_bool, kb_NoneType_str, kb_NoneType_tuple, kb_NoneType_list, kb_NoneType_dict, kb_bool_int, kb_bool_bool, kb_bool_str, kb_bool_tuple, kb_bool_list, kb_bool_dict, kb_int_int, kb_int_bool, kb_int_str, kb_int_tuple, kb_int_list, kb_int_dict, kb_str_int, kb_str_bool, kb_str_str, kb_str_tuple, kb_str_list, kb_str_dict, kb_list_int, kb_list_bool, kb_list_str, kb_list_tuple, kb_list_list, kb_list_dict, kb_tuple_int, kb_tuple_bool, kb_tuple_str, kb_tuple_tuple, kb_tuple_list, kb_tuple_dict, kb_dict_int, kb_dict_bool, kb_dict_str, kb_dict_tuple, kb_dict_list, kb_dict_dict, String.reduceEq, Int.reduceLT, Int.reduceLE, Int.reduceNeg, Int.reducePow, Nat.reducePow, Int.reduceToNat, Nat.reduceLT, Nat.reduceLeDiff, decide_true, decide_false, and_self, and_true, true_and, or_true, true_or, or_false, false_or, Bool.not_true, Bool.not_false, Bool.true_eq_false, Bool.false_eq_true, Option.map_some, Option.map_none, h, g1, ix0, ix41, ix42, ix43, List.set_set, q1, q2, q3, hl', cdiv, cmod, tk]
    exact ⟨_, _, rfl, ⟨cells, a, _, _, rfl, hc⟩, p1 _, p2 _⟩
  · have hl' := decide_eq_false hl
    by_cases he : cells = []
    · subst he
      simp only [F__law_draw, C__law_draw, cV_, cK_, cBin_, cCall_, cCons_, cNil_, cH_, cD_, cA_, cT_, cIf_, cAndT_, cOrT_, cNotT_, cAndV_, cOrV_, cNotV_, cChain_, cSl_, cPart_, cNoPart_, cMt_, cIsi_, cNeg_, cFn_, sNil_, sCons_, sIf_, sSet_, sPar_, sExpr_, sRet_, sRetN_, sRaise_, sBrk_, sCnt_, sStore_, fnOf_, iAny_, iR1_, iR2_, iEn_, gN_, gT_, gsN_, gsC_, stepS_, cYes_, lcF_, bT, iP, isTy, tyName, opTup, opLst, opAdd, opII, cDivB, opMul, opOrd, opEq, kD_nn, kD_ii, kD_bb, kD_ss, kD_ni, kD_nb, kD_ns, kD_in, kD_bn, kD_sn, kD_is, kD_si, kD_bs, kD_sb, kD_tuple1, kD_tuple2, kD_list1, kD_list2, kD_ib, kD_bi, opIsN, opIx, opSl, one, fLen, fInt, fAbs, fTup, fList, see, hold, toD, adopt, Rs.bind, Rs.thenS, opStore, expo, itmOf, wipeR, mAppend, mExtend, List.getElem?_cons_zero, List.getElem?_cons_succ, List.map_cons, List.map_nil, List.length_cons, List.length_nil, List.cons_append, List.nil_append, List.replicate_succ, List.replicate_zero, List.set_cons_zero, List.set_cons_succ, Nat.zero_add, Nat.reduceAdd, Nat.reduceSub, ↓reduceIte, reduceCtorEq, String.reduceBEq, kb_NoneType_int, kb_NoneType_bool, kb_NoneType_str, kb_NoneType_tuple, kb_NoneType_list, kb_NoneType_dict, kb_bool_int, kb_bool_bool, kb_bool_str, kb_bool_tuple, kb_bool_list, kb_bool_dict, kb_int_int, kb_int_bool, kb_int_str, kb_int_tuple, kb_int_list, kb_int_dict, kb_str_int, kb_str_bool, kb_str_str, kb_str_tuple, kb_str_list, kb_str_dict, kb_list_int, kb_list_bool, kb_list_str, kb_list_tuple, kb_list_list, kb_list_dict, kb_tuple_int, kb_tuple_bool, kb_tuple_str, kb_tuple_tuple, kb_tuple_list, kb_tuple_dict, kb_dict_int, kb_dict_bool, kb_dict_str, kb_dict_tuple, kb_dict_list, kb_dict_dict, String.reduceEq, Int.reduceLT, Int.reduceLE, Int.reduceNeg, Int.reducePow, Nat.reducePow, Int.reduceToNat, Nat.reduceLT, Nat.reduceLeDiff, decide_true, decide_false, and_self, and_true, true_and, or_true, true_or, or_false, false_or, Bool.not_true, Bool.not_false, Bool.true_eq_false, Bool.false_eq_true, Option.map_some, Option.map_none, h, g1, ix0, ix41, ix42, ix43, List.set_set, q1, q2, q3, hl', cdiv, cmod, tk, PyData.eqv, Int.ofNat_zero, beq_self_eq_true, mixed_ok]
      exact ⟨_, _, rfl, ⟨[], _, _, _, rfl, by simp⟩, p1 _, p2 _⟩
    · have hlen : 0 < cells.length := by cases cells with | nil => exact absurd rfl he | cons x r => simp
      have hne : (((cells.map PyData.int).length : Nat) : Int) ≠ 0 := by rw [List.length_map]; omega
      have hne' : ((((cells.map PyData.int).length : Nat) : Int) == 0) = false := by simpa using hne
      have cmod2 : decide ((0 : Int) < (((cells.map PyData.int).length : Nat) : Int)) = true := decide_eq_true (by omega)
      have hix : ∃ x : Int, L2.atI (cells.map PyData.int) (a % (((cells.map PyData.int).length : Nat) : Int)) = some (.int x) := by
        have z1 := Int.emod_nonneg a hne
        have z2 := Int.emod_lt_of_pos a (by omega : (0 : Int) < (((cells.map PyData.int).length : Nat) : Int))
        have z3 : (a % (((cells.map PyData.int).length : Nat) : Int)).toNat < cells.length := by rw [List.length_map] at z2 ⊢; omega
        refine ⟨cells[(a % (((cells.map PyData.int).length : Nat) : Int)).toNat], ?_⟩
        unfold L2.atI L2.ixN
        rw [if_pos z1, if_pos z2]
        simp only [Option.bind_some]
        rw [List.getElem?_map, List.getElem?_eq_getElem z3]
        rfl
      obtain ⟨x, hx⟩ := hix
      have na : decide (Int.natAbs 10 < 18446744073709551616) = true := by decide
      by_cases hb : decide (a < (((cells.map PyData.int).length : Nat) : Int)) = true
      · by_cases hb2 : decide ((1000000000000000000 : Int) ≤ (if x < 0 then -x else x)) = true
        · simp only [F__law_draw, C__law_draw, cV_, cK_, cBin_, cCall_, cCons_, cNil_, cH_, cD_, cA_, cT_, cIf_, cAndT_, cOrT_, cNotT_, cAndV_, cOrV_, cNotV_, cChain_, cSl_, cPart_, cNoPart_, cMt_, cIsi_, cNeg_, cFn_, sNil_, sCons_, sIf_, sSet_, sPar_, sExpr_, sRet_, sRetN_, sRaise_, sBrk_, sCnt_, sStore_, fnOf_, iAny_, iR1_, iR2_, iEn_, gN_, gT_, gsN_, gsC_, stepS_, cYes_, lcF_, bT, iP, isTy, tyName, opTup, opLst, opAdd, opII, cDivB, opMul, opOrd, opEq, kD_nn, kD_ii, kD_bb, kD_ss, kD_ni, kD_nb, kD_ns, kD_in, kD_bn, kD_sn, kD_is, kD_si, kD_bs, kD_sb, kD_tuple1, kD_tuple2, kD_list1, kD_list2, kD_ib, kD_bi, opIsN, opIx, opSl, one, fLen, fInt, fAbs, fTup, fList, see, hold, toD, adopt, Rs.bind, Rs.thenS, opStore, expo, itmOf, wipeR, mAppend, mExtend, List.getElem?_cons_zero, List.getElem?_cons_succ, List.map_cons, List.map_nil, List.length_cons, List.length_nil, List.cons_append, List.nil_append, List.replicate_succ, List.replicate_zero, List.set_cons_zero, List.set_cons_succ, Nat.zero_add, Nat.reduceAdd, Nat.reduceSub, ↓reduceIte, reduceCtorEq, String.reduceBEq, kb_NoneType_int, kb_NoneType_bool, kb_NoneType_str, kb_NoneType_tuple, kb_NoneType_list, kb_NoneType_dict, kb_bool_int, kb_bool_bool, kb_bool_str, kb_bool_tuple, kb_bool_list, kb_bool_dict, kb_int_int, kb_int_bool, kb_int_str, kb_int_tuple, kb_int_list, kb_int_dict, kb_str_int, kb_str_bool, kb_str_str, kb_str_tuple, kb_str_list, kb_str_dict, kb_list_int, kb_list_bool, kb_list_str, kb_list_tuple, kb_list_list, kb_list_dict, kb_tuple_int, kb_tuple_bool, kb_tuple_str, kb_tuple_tuple, kb_tuple_list, kb_tuple_dict, kb_dict_int, kb_dict_bool, kb_dict_str, kb_dict_tuple, kb_dict_list, kb_dict_dict, String.reduceEq, Int.reduceLT, Int.reduceLE, Int.reduceNeg, Int.reducePow, Nat.reducePow, Int.reduceToNat, Nat.reduceLT, Nat.reduceLeDiff, decide_true, decide_false, and_self, and_true, true_and, or_true, true_or, or_false, false_or, Bool.not_true, Bool.not_false, Bool.true_eq_false, Bool.false_eq_true, Option.map_some, Option.map_none, h, g1, ix0, ix41, ix42, ix43, List.set_set, q1, q2, q3, hl', cdiv, cmod, tk, PyData.eqv, hne', cmod2, hx, hb, na, hb2, mixed_ok]
          exact ⟨_, _, rfl, ⟨cells, _, _, _, rfl, hc⟩, p1 _, p2 _⟩
        · have hb2' := Bool.eq_false_iff.mpr hb2
          simp only [F__law_draw, C__law_draw, cV_, cK_, cBin_, cCall_, cCons_, cNil_, cH_, cD_, cA_, cT_, cIf_, cAndT_, cOrT_, cNotT_, cAndV_, cOrV_, cNotV_, cChain_, cSl_, cPart_, cNoPart_, cMt_, cIsi_, cNeg_, cFn_, sNil_, sCons_, sIf_, sSet_, sPar_, sExpr_, sRet_, sRetN_, sRaise_, sBrk_, sCnt_, sStore_, fnOf_, iAny_, iR1_, iR2_, iEn_, gN_, gT_, gsN_, gsC_, stepS_, cYes_, lcF_, bT, iP, isTy, tyName, opTup, opLst, opAdd, opII, cDivB, opMul, opOrd, opEq, kD_nn, kD_ii, kD_bb, kD_ss, kD_ni, kD_nb, kD_ns, kD_in, kD_bn, kD_sn, kD_is, kD_si, kD_bs, kD_sb, kD_tuple1, kD_tuple2, kD_list1, kD_list2, kD_ib, kD_bi, opIsN, opIx, opSl, one, fLen, fInt, fAbs, fTup, fList, see, hold, toD, adopt, Rs.bind, Rs.thenS, opStore, expo, itmOf, wipeR, mAppend, mExtend, List.getElem?_cons_zero, List.getElem?_cons_succ, List.map_cons, List.map_nil, List.length_cons, List.length_nil, List.cons_append, List.nil_append, List.replicate_succ, List.replicate_zero, List.set_cons_zero, List.set_cons_succ, Nat.zero_add, Nat.reduceAdd, Nat.reduceSub, ↓reduceIte, reduceCtorEq, String.reduceBEq, kb_NoneType_int, kb_NoneType_bool, kb_NoneType_str, kb_NoneType_tuple, kb_NoneType_list, kb_NoneType_dict, kb_bool_int, kb_bool_bool, kb_bool_str, kb_bool_tuple, kb_bool_list, kb_bool_dict, kb_int_int, kb_int_bool, kb_int_str, kb_int_tuple, kb_int_list, kb_int_dict, kb_str_int, kb_str_bool, kb_str_str, kb_str_tuple, kb_str_list, kb_str_dict, kb_list_int, kb_list_bool, kb_list_str, kb_list_tuple, kb_list_list, kb_list_dict, kb_tuple_int, kb_tuple_bool, kb_tuple_str, kb_tuple_tuple, kb_tuple_list, kb_tuple_dict, kb_dict_int, kb_dict_bool, kb_dict_str, kb_dict_tuple, kb_dict_list, kb_dict_dict, String.reduceEq, Int.reduceLT, Int.reduceLE, Int.reduceNeg, Int.reducePow, Nat.reducePow, Int.reduceToNat, Nat.reduceLT, Nat.reduceLeDiff, decide_true, decide_false, and_self, and_true, true_and, or_true, true_or, or_false, false_or, Bool.not_true, Bool.not_false, Bool.true_eq_false, Bool.false_eq_true, Option.map_some, Option.map_none, h, g1, ix0, ix41, ix42, ix43, List.set_set, q1, q2, q3, hl', cdiv, cmod, tk, PyData.eqv, hne', cmod2, hx, hb, na, hb2', mixed_ok]
          exact ⟨_, _, rfl, ⟨cells, _, _, _, rfl, hc⟩, p1 _, p2 _⟩
      · have hb' := Bool.eq_false_iff.mpr hb
        simp only [F__law_draw, C__law_draw, cV_, cK_, cBin_, cCall_, cCons_, cNil_, cH_, cD_, cA_, cT_, cIf_, cAndT_, cOrT_, cNotT_, cAndV_, cOrV_, cNotV_, cChain_, cSl_, cPart_, cNoPart_, cMt_, cIsi_, cNeg_, cFn_, sNil_, sCons_, sIf_, sSet_, sPar_, sExpr_, sRet_, sRetN_, sRaise_, sBrk_, sCnt_, sStore_, fnOf_, iAny_, iR1_, iR2_, iEn_, gN_, gT_, gsN_, gsC_, stepS_, cYes_, lcF_, bT, iP, isTy, tyName, opTup, opLst, opAdd, opII, cDivB, opMul, opOrd, opEq, kD_nn, kD_ii, kD_bb, kD_ss, kD_ni, kD_nb, kD_ns, kD_in, kD_bn, kD_sn, kD_is, kD_si, kD_bs, kD_sb, kD_tuple1, kD_tuple2, kD_list1, kD_list2, kD_ib, kD_bi, opIsN, opIx, opSl, one, fLen, fInt, fAbs, fTup, fList, see, hold, toD, adopt, Rs.bind, Rs.thenS, opStore, expo, itmOf, wipeR, mAppend, mExtend, List.getElem?_cons_zero, List.getElem?_cons_succ, List.map_cons, List.map_nil, List.length_cons, List.length_nil, List.cons_append, List.nil_append, List.replicate_succ, List.replicate_zero, List.set_cons_zero, List.set_cons_succ, Nat.zero_add, Nat.reduceAdd, Nat.reduceSub, ↓reduceIte, reduceCtorEq, String.reduceBEq, kb_NoneType_int, kb_NoneType_bool, kb_NoneType_str, kb_NoneType_tuple, kb_NoneType_list, kb_NoneType_dict, kb_bool_int, kb_bool_bool, kb_bool_str, kb_bool_tuple, kb_bool_list, kb_bool_dict, kb_int_int, kb_int_bool, kb_int_str, kb_int_tuple, kb_int_list, kb_int_dict, kb_str_int, kb_str_bool, kb_str_str, kb_str_tuple, kb_str_list, kb_str_dict, kb_list_int, kb_list_bool, kb_list_str, kb_list_tuple, kb_list_list, kb_list_dict, kb_tuple_int, kb_tuple_bool, kb_tuple_str, kb_tuple_tuple, kb_tuple_list, kb_tuple_dict, kb_dict_int, kb_dict_bool, kb_dict_str, kb_dict_tuple, kb_dict_list, kb_dict_dict, String.reduceEq, Int.reduceLT, Int.reduceLE, Int.reduceNeg, Int.reducePow, Nat.reducePow, Int.reduceToNat, Nat.reduceLT, Nat.reduceLeDiff, decide_true, decide_false, and_self, and_true, true_and, or_true, true_or, or_false, false_or, Bool.not_true, Bool.not_false, Bool.true_eq_false, Bool.false_eq_true, Option.map_some, Option.map_none, h, g1, ix0, ix41, ix42, ix43, List.set_set, q1, q2, q3, hl', cdiv, cmod, tk, PyData.eqv, hne', cmod2, hx, hb', mixed_ok]
        exact ⟨_, _, rfl, ⟨cells, _, _, _, rfl, hc⟩, p1 _, p2 _⟩
end L52
set_option maxRecDepth 100000
set_option maxHeartbeats 1000000
namespace L52
open PySem PySem.Spec PyProof.Rows L2 Em
open TL (tl spl pre joinL)
/-! ### the mathematics of codes -/
def rep (c : Nat) : List Nat := (List.replicate c [49, 48]).flatten
def S4 : List Nat := [49, 48, 48, 48]
theorem rep_succ (c : Nat) : rep (c + 1) = 49 :: 48 :: rep c := by unfold rep; rw [List.replicate_succ, List.flatten_cons]; rfl
theorem rep_snoc (c : Nat) : rep (c + 1) = rep c ++ [49, 48] := by unfold rep; rw [List.replicate_succ', List.flatten_append]; rfl
theorem rep_len (c : Nat) : (rep c).length = 2 * c := by
  induction c with
  | zero => rfl
  | succ c ih => rw [rep_succ]; simp [ih]; omega
theorem rep_free (rest : List Nat) : ∀ (m i : Nat), i < (rep m).length → pre S4 ((rep m ++ (S4 ++ rest)).drop i) = false
  | 0, i, h => by simp [rep] at h
  | m + 1, i, h => by
    rw [rep_succ]
    match i with
    | 0 =>
      cases m with
      | zero => rfl
      | succ m => rw [rep_succ]; rfl
    | 1 => simp only [List.cons_append, List.drop_succ_cons, List.drop_zero]; exact TL.pre_of_head (s := 49) [48, 48, 48] _ (by decide)
    | i + 2 =>
      simp only [List.cons_append, List.drop_succ_cons]
      exact rep_free rest m i (by rw [rep_succ] at h; simp at h; exact h)
def catL (cs : List Nat) : List Nat := (cs.map fun c => rep (c - 1) ++ S4).flatten
theorem spl_cat : ∀ cs : List Nat, spl S4 0 [] (catL cs) = cs.map (fun c => rep (c - 1)) ++ [[]]
  | [] => rfl
  | c :: cs => by
    have e : catL (c :: cs) = rep (c - 1) ++ (S4 ++ catL cs) := by simp [catL]
    rw [e, TL.spl_part (by decide) (rep_free _ _), spl_cat cs]
    rfl
def bL (cs : List Nat) : List Nat := joinL [48, 48] (cs.map rep)
theorem bL_cat : ∀ cs : List Nat, cs ≠ [] → (∀ c ∈ cs, 1 ≤ c) → bL cs ++ [48, 48] = catL cs
  | [], h, _ => absurd rfl h
  | [c], _, h => by
    obtain ⟨k, rfl⟩ : ∃ k, c = k + 1 := ⟨c - 1, by have := h c (by simp); omega⟩
    show rep (k + 1) ++ [48, 48] = (rep (k + 1 - 1) ++ S4) ++ []
    rw [rep_snoc, List.append_nil, List.append_assoc]
    rfl
  | c :: d :: r, _, h => by
    obtain ⟨k, rfl⟩ : ∃ k, c = k + 1 := ⟨c - 1, by have := h c (by simp); omega⟩
    have ih := bL_cat (d :: r) (by simp) (fun x hx => h x (by simp at hx ⊢; exact .inr hx))
    have e : bL ((k + 1) :: d :: r) = rep (k + 1) ++ ([48, 48] ++ bL (d :: r)) := rfl
    have e2 : catL ((k + 1) :: d :: r) = (rep k ++ S4) ++ catL (d :: r) := by simp [catL]
    rw [e, e2, ← ih, rep_snoc]
    simp [S4]
def bS (cs : List Nat) : Str := Txt.join "00" (cs.map fun (c : Nat) => strRep "10" (c : Int))
theorem tl_rep (c : Nat) : tl (strRep "10" (c : Int)) = rep c := by
  unfold strRep
  rw [TL.tl_mk]
  rfl
theorem tl_bS (cs : List Nat) : tl (bS cs) = bL cs := by
  unfold bS
  rw [TL.join_eq, TL.tl_join, List.map_map]
  rw [List.map_congr_left (f := tl ∘ fun (c : Nat) => strRep "10" (c : Int)) (g := rep) fun c _ => tl_rep c]
  rfl
/-- the parts of a text -/
def partsS (t : Str) : List Str := Txt.split (t ++ "00") "1000"
def csOf (t : Str) : List Nat := (partsS t).dropLast.map fun p => p.length / 2 + 1
theorem split_tl (t : Str) : (partsS t).map tl = spl S4 0 [] (tl t ++ [48, 48]) := by
  unfold partsS
  rw [TL.split_spl _ _ (by decide) (TL.kind_ok (by decide +kernel)), TL.tl_append]
  rfl
theorem parts_bS {cs : List Nat} (h : cs ≠ []) (h1 : ∀ c ∈ cs, 1 ≤ c) : partsS (bS cs) = cs.map (fun (c : Nat) => strRep "10" ((c - 1 : Nat) : Int)) ++ [Str.empty] := by
  apply TL.map_tl_inj
  rw [split_tl, tl_bS, bL_cat cs h h1, spl_cat, List.map_append, List.map_map]
  rw [List.map_congr_left (g := tl ∘ fun (c : Nat) => strRep "10" ((c - 1 : Nat) : Int)) fun c _ => (tl_rep _).symm]
  rfl
theorem strRep_len (c : Nat) : (strRep "10" (c : Int)).length = 2 * c := by rw [TL.len_tl, tl_rep, rep_len]
theorem csOf_bS {cs : List Nat} (h : cs ≠ []) (h1 : ∀ c ∈ cs, 1 ≤ c) : csOf (bS cs) = cs := by
  unfold csOf
  rw [parts_bS h h1, List.dropLast_concat, List.map_map]
  conv => rhs; rw [← List.map_id cs]
  refine List.map_congr_left fun c hc => ?_
  have := h1 c hc
  show (strRep "10" ((c - 1 : Nat) : Int)).length / 2 + 1 = c
  rw [strRep_len]
  omega
/-- a code -/
def isCode (cs : List Nat) : Bool := decide (1 ≤ cs.length ∧ cs.length ≤ 4) && cs.all fun c => decide (1 ≤ c ∧ c ≤ 9)
def codeD (cs : List Nat) : D := .tuple (cs.map fun (c : Nat) => .int (c : Int))
/-- what a text says -/
def readD (t : Str) : D := if isCode (csOf t) = true ∧ bS (csOf t) = t then codeD (csOf t) else .none
theorem readD_bS {cs : List Nat} (h : isCode cs = true) : readD (bS cs) = codeD cs := by
  unfold isCode at h
  simp only [Bool.and_eq_true, decide_eq_true_eq, List.all_eq_true] at h
  have e := csOf_bS (cs := cs) (by intro z; subst z; simp at h) (fun c hc => (h.2 c hc).1)
  unfold readD
  rw [e, if_pos ⟨by unfold isCode; simpa using h, rfl⟩]
def bits (t : Str) : Prop := ∀ c ∈ tl t, c = 48 ∨ c = 49
theorem bits_rep (c : Nat) : ∀ x ∈ rep c, x = 48 ∨ x = 49 := by
  intro x hx
  unfold rep at hx
  obtain ⟨l, h1, h2⟩ := List.mem_flatten.mp hx
  have := List.eq_of_mem_replicate h1
  subst this
  simp at h2
  omega
theorem bits_bL : ∀ cs : List Nat, ∀ x ∈ bL cs, x = 48 ∨ x = 49
  | [], x, h => by cases h
  | [c], x, h => bits_rep c x h
  | c :: d :: r, x, h => by
    have e : bL (c :: d :: r) = rep c ++ ([48, 48] ++ bL (d :: r)) := rfl
    rw [e] at h
    rcases List.mem_append.mp h with h | h
    · exact bits_rep c x h
    · rcases List.mem_append.mp h with h | h
      · simp at h; omega
      · exact bits_bL (d :: r) x h
theorem bL_len : ∀ cs : List Nat, (∀ c ∈ cs, c ≤ 9) → (bL cs).length ≤ 20 * cs.length
  | [], _ => by simp [bL, joinL]
  | [c], h => by show (rep c).length ≤ _; rw [rep_len]; have := h c (by simp); simp; omega
  | c :: d :: r, h => by
    have e : bL (c :: d :: r) = rep c ++ ([48, 48] ++ bL (d :: r)) := rfl
    have ih := bL_len (d :: r) (fun x hx => h x (by simp at hx ⊢; exact .inr hx))
    have := h c (by simp)
    rw [e, List.length_append, List.length_append, rep_len]
    simp at ih ⊢
    omega
theorem bits_bS (cs : List Nat) : bits (bS cs) := by unfold bits; rw [tl_bS]; exact bits_bL cs
theorem len_bS {cs : List Nat} (h : ∀ c ∈ cs, c ≤ 9) (h2 : cs.length ≤ 4) : (bS cs).length ≤ 80 := by rw [TL.len_tl, tl_bS]; have := bL_len cs h; omega
theorem bits_app {a b : Str} (h : bits a) (h' : bits b) : bits (a ++ b) := by
  unfold bits
  rw [TL.tl_append]
  intro c hc
  rcases List.mem_append.mp hc with h1 | h1
  · exact h c h1
  · exact h' c h1
theorem len_app (a b : Str) : (a ++ b).length = a.length + b.length := by rw [TL.len_tl, TL.tl_append, List.length_append, ← TL.len_tl, ← TL.len_tl]
end L52
set_option maxRecDepth 100000
set_option maxHeartbeats 1000000
namespace L52
open PySem PySem.Spec PyProof.Rows L2 Em
open TL (tl)
/-! ### the small defs -/
theorem hand_ok (ns : List Int) (μ : Mem) : ∃ ds, F__law_hand [.d (.list (ns.map .int))] μ = .ok (.fl ds) μ ∧ HandOk ds := by
  have hL : cLc (iAny (cH (cSl (cV 0) cNoPart (cPart (cK (.int 63)))))) [1] (gN 1) cYes (cCall (one fInt) (cCons (cV 1) cNil)) [some (.d (.list (ns.map .int))), none] μ = .ok (.fl (((ns.take 63).map PyData.int).map id)) μ := by
    refine cLc_map1 id (itm_list _) ?_ (nat_sizeLine (by simp; omega)) ?_
    · simp only [cV_, cK_, cBin_, cCall_, cCons_, cNil_, cH_, cD_, cA_, cT_, cIf_, cAndT_, cOrT_, cNotT_, cAndV_, cOrV_, cNotV_, cChain_, cSl_, cPart_, cNoPart_, cMt_, cIsi_, cNeg_, cFn_, sNil_, sCons_, sIf_, sSet_, sPar_, sExpr_, sRet_, sRetN_, sRaise_, sBrk_, sCnt_, sStore_, fnOf_, iAny_, iR1_, iR2_, iEn_, gN_, gT_, gsN_, gsC_, stepS_, cYes_, lcF_, bT, iP, isTy, tyName, opTup, opLst, opAdd, opII, cDivB, opMul, opOrd, opEq, kD_nn, kD_ii, kD_bb, kD_ss, kD_ni, kD_nb, kD_ns, kD_in, kD_bn, kD_sn, kD_is, kD_si, kD_bs, kD_sb, kD_tuple1, kD_tuple2, kD_list1, kD_list2, kD_ib, kD_bi, opIsN, opIx, opSl, one, fLen, fInt, fAbs, fTup, fList, see, hold, toD, adopt, Rs.bind, Rs.thenS, opStore, expo, itmOf, wipeR, mAppend, mExtend, List.getElem?_cons_zero, List.getElem?_cons_succ, List.map_cons, List.map_nil, List.length_cons, List.length_nil, List.cons_append, List.nil_append, List.replicate_succ, List.replicate_zero, List.set_cons_zero, List.set_cons_succ, Nat.zero_add, Nat.reduceAdd, Nat.reduceSub, ↓reduceIte, reduceCtorEq, String.reduceBEq, kb_NoneType_int, kb_NoneType_bool, kb_NoneType_str, kb_NoneType_tuple, kb_NoneType_list, kb_NoneType_dict, kb_bool_int, kb_bool_bool, kb_bool_str, kb_bool_tuple, kb_bool_list, kb_bool_dict, kb_int_int, kb_int_bool, kb_int_str, kb_int_tuple, kb_int_list, kb_int_dict, kb_str_int, kb_str_bool, kb_str_str, kb_str_tuple, kb_str_list, kb_str_dict, kb_list_int, kb_list_bool, kb_list_str, kb_list_tuple, kb_list_list, kb_list_dict, kb_tuple_int, kb_tuple_bool, kb_tuple_str, kb_tuple_tuple, kb_tuple_list, kb_tuple_dict, kb_dict_int, kb_dict_bool, kb_dict_str, kb_dict_tuple, kb_dict_list, kb_dict_dict, String.reduceEq, Int.reduceLT, Int.reduceLE, Int.reduceNeg, Int.reducePow, Nat.reducePow, Int.reduceToNat, Nat.reduceLT, Nat.reduceLeDiff, decide_true, decide_false, and_self, and_true, true_and, or_true, true_or, or_false, false_or, Bool.not_true, Bool.not_false, Bool.true_eq_false, Bool.false_eq_true, Option.map_some, Option.map_none]
      rw [show ((63 : Int)) = ((63 : Nat) : Int) from rfl, cutD_take, List.map_take]
    · intro d hd μ' _
      obtain ⟨i, _, rfl⟩ := List.mem_map.mp hd
      simp only [cV_, cK_, cBin_, cCall_, cCons_, cNil_, cH_, cD_, cA_, cT_, cIf_, cAndT_, cOrT_, cNotT_, cAndV_, cOrV_, cNotV_, cChain_, cSl_, cPart_, cNoPart_, cMt_, cIsi_, cNeg_, cFn_, sNil_, sCons_, sIf_, sSet_, sPar_, sExpr_, sRet_, sRetN_, sRaise_, sBrk_, sCnt_, sStore_, fnOf_, iAny_, iR1_, iR2_, iEn_, gN_, gT_, gsN_, gsC_, stepS_, cYes_, lcF_, bT, iP, isTy, tyName, opTup, opLst, opAdd, opII, cDivB, opMul, opOrd, opEq, kD_nn, kD_ii, kD_bb, kD_ss, kD_ni, kD_nb, kD_ns, kD_in, kD_bn, kD_sn, kD_is, kD_si, kD_bs, kD_sb, kD_tuple1, kD_tuple2, kD_list1, kD_list2, kD_ib, kD_bi, opIsN, opIx, opSl, one, fLen, fInt, fAbs, fTup, fList, see, hold, toD, adopt, Rs.bind, Rs.thenS, opStore, expo, itmOf, wipeR, mAppend, mExtend, List.getElem?_cons_zero, List.getElem?_cons_succ, List.map_cons, List.map_nil, List.length_cons, List.length_nil, List.cons_append, List.nil_append, List.replicate_succ, List.replicate_zero, List.set_cons_zero, List.set_cons_succ, Nat.zero_add, Nat.reduceAdd, Nat.reduceSub, ↓reduceIte, reduceCtorEq, String.reduceBEq, kb_NoneType_int, kb_NoneType_bool, kb_NoneType_str, kb_NoneType_tuple, kb_NoneType_list, kb_NoneType_dict, kb_bool_int, kb_bool_bool, kb_bool_str, kb_bool_tuple, kb_bool_list, kb_bool_dict, kb_int_int, kb_int_bool, kb_int_str, kb_int_tuple, kb_int_list, kb_int_dict, kb_str_int, kb_str_bool, kb_str_str, kb_str_tuple, kb_str_list, kb_str_dict, kb_list_int, kb_list_bool, kb_list_str, kb_list_tuple, kb_list_list, kb_list_dict, kb_tuple_int, kb_tuple_bool, kb_tuple_str, kb_tuple_tuple, kb_tuple_list, kb_tuple_dict, kb_dict_int, kb_dict_bool, kb_dict_str, kb_dict_tuple, kb_dict_list, kb_dict_dict, String.reduceEq, Int.reduceLT, Int.reduceLE, Int.reduceNeg, Int.reducePow, Nat.reducePow, Int.reduceToNat, Nat.reduceLT, Nat.reduceLeDiff, decide_true, decide_false, and_self, and_true, true_and, or_true, true_or, or_false, false_or, Bool.not_true, Bool.not_false, Bool.true_eq_false, Bool.false_eq_true, Option.map_some, Option.map_none, id]
  rw [List.map_id] at hL
  refine ⟨_, ?_, ns.take 63, 0, 0, 0, rfl, by simp; omega⟩
  have h4 : 4 ≤ sizeLine := by decide
  simp only [F__law_hand, C__law_hand, cV_, cK_, cBin_, cCall_, cCons_, cNil_, cH_, cD_, cA_, cT_, cIf_, cAndT_, cOrT_, cNotT_, cAndV_, cOrV_, cNotV_, cChain_, cSl_, cPart_, cNoPart_, cMt_, cIsi_, cNeg_, cFn_, sNil_, sCons_, sIf_, sSet_, sPar_, sExpr_, sRet_, sRetN_, sRaise_, sBrk_, sCnt_, sStore_, fnOf_, iAny_, iR1_, iR2_, iEn_, gN_, gT_, gsN_, gsC_, stepS_, cYes_, lcF_, bT, iP, isTy, tyName, opTup, opLst, opAdd, opII, cDivB, opMul, opOrd, opEq, kD_nn, kD_ii, kD_bb, kD_ss, kD_ni, kD_nb, kD_ns, kD_in, kD_bn, kD_sn, kD_is, kD_si, kD_bs, kD_sb, kD_tuple1, kD_tuple2, kD_list1, kD_list2, kD_ib, kD_bi, opIsN, opIx, opSl, one, fLen, fInt, fAbs, fTup, fList, see, hold, toD, adopt, Rs.bind, Rs.thenS, opStore, expo, itmOf, wipeR, mAppend, mExtend, List.getElem?_cons_zero, List.getElem?_cons_succ, List.map_cons, List.map_nil, List.length_cons, List.length_nil, List.cons_append, List.nil_append, List.replicate_succ, List.replicate_zero, List.set_cons_zero, List.set_cons_succ, Nat.zero_add, Nat.reduceAdd, Nat.reduceSub, ↓reduceIte, reduceCtorEq, String.reduceBEq, kb_NoneType_int, kb_NoneType_bool, kb_NoneType_str, kb_NoneType_tuple, kb_NoneType_list, kb_NoneType_dict, kb_bool_int, kb_bool_bool, kb_bool_str, kb_bool_tuple, kb_bool_list, kb_bool_dict, kb_int_int, kb_int_bool, kb_int_str, kb_int_tuple, kb_int_list, kb_int_dict, kb_str_int, kb_str_bool, kb_str_str, kb_str_tuple, kb_str_list, kb_str_dict, kb_list_int, kb_list_bool, kb_list_str, kb_list_tuple, kb_list_list, kb_list_dict, kb_tuple_int, kb_tuple_bool, kb_tuple_str, kb_tuple_tuple, kb_tuple_list, kb_tuple_dict, kb_dict_int, kb_dict_bool, kb_dict_str, kb_dict_tuple, kb_dict_list, kb_dict_dict, String.reduceEq, Int.reduceLT, Int.reduceLE, Int.reduceNeg, Int.reducePow, Nat.reducePow, Int.reduceToNat, Nat.reduceLT, Nat.reduceLeDiff, decide_true, decide_false, and_self, and_true, true_and, or_true, true_or, or_false, false_or, Bool.not_true, Bool.not_false, Bool.true_eq_false, Bool.false_eq_true, Option.map_some, Option.map_none, hL]
  simp only [List.mapM_cons, List.mapM_nil, Option.bind_eq_bind, Option.bind_some, Option.pure_def, cV_, cK_, cBin_, cCall_, cCons_, cNil_, cH_, cD_, cA_, cT_, cIf_, cAndT_, cOrT_, cNotT_, cAndV_, cOrV_, cNotV_, cChain_, cSl_, cPart_, cNoPart_, cMt_, cIsi_, cNeg_, cFn_, sNil_, sCons_, sIf_, sSet_, sPar_, sExpr_, sRet_, sRetN_, sRaise_, sBrk_, sCnt_, sStore_, fnOf_, iAny_, iR1_, iR2_, iEn_, gN_, gT_, gsN_, gsC_, stepS_, cYes_, lcF_, bT, iP, isTy, tyName, opTup, opLst, opAdd, opII, cDivB, opMul, opOrd, opEq, kD_nn, kD_ii, kD_bb, kD_ss, kD_ni, kD_nb, kD_ns, kD_in, kD_bn, kD_sn, kD_is, kD_si, kD_bs, kD_sb, kD_tuple1, kD_tuple2, kD_list1, kD_list2, kD_ib, kD_bi, opIsN, opIx, opSl, one, fLen, fInt, fAbs, fTup, fList, see, hold, toD, adopt, Rs.bind, Rs.thenS, opStore, expo, itmOf, wipeR, mAppend, mExtend, List.getElem?_cons_zero, List.getElem?_cons_succ, List.map_cons, List.map_nil, List.length_cons, List.length_nil, List.cons_append, List.nil_append, List.replicate_succ, List.replicate_zero, List.set_cons_zero, List.set_cons_succ, Nat.zero_add, Nat.reduceAdd, Nat.reduceSub, ↓reduceIte, reduceCtorEq, String.reduceBEq, kb_NoneType_int, kb_NoneType_bool, kb_NoneType_str, kb_NoneType_tuple, kb_NoneType_list, kb_NoneType_dict, kb_bool_int, kb_bool_bool, kb_bool_str, kb_bool_tuple, kb_bool_list, kb_bool_dict, kb_int_int, kb_int_bool, kb_int_str, kb_int_tuple, kb_int_list, kb_int_dict, kb_str_int, kb_str_bool, kb_str_str, kb_str_tuple, kb_str_list, kb_str_dict, kb_list_int, kb_list_bool, kb_list_str, kb_list_tuple, kb_list_list, kb_list_dict, kb_tuple_int, kb_tuple_bool, kb_tuple_str, kb_tuple_tuple, kb_tuple_list, kb_tuple_dict, kb_dict_int, kb_dict_bool, kb_dict_str, kb_dict_tuple, kb_dict_list, kb_dict_dict, String.reduceEq, Int.reduceLT, Int.reduceLE, Int.reduceNeg, Int.reducePow, Nat.reducePow, Int.reduceToNat, Nat.reduceLT, Nat.reduceLeDiff, decide_true, decide_false, and_self, and_true, true_and, or_true, true_or, or_false, false_or, Bool.not_true, Bool.not_false, Bool.true_eq_false, Bool.false_eq_true, Option.map_some, Option.map_none, if_pos h4, List.take_length]
theorem any_ok {n : Nat} {μ : Mem} {ds xs : List D} (h : μ[n]? = some (.lst ds)) (hk : HandOk ds) (h0 : 0 < xs.length) (h1 : xs.length < 1000) : ∃ d ds', F__law_any [.c n, .d (.list xs)] μ = .ok (.d d) (μ.set n (.lst ds')) ∧ HandOk ds' ∧ d ∈ xs := by
  obtain ⟨r, ds', e, hk', r0, r1⟩ := draw_ok (m := ((xs.length : Nat) : Int)) h hk (by omega) (by omega)
  have hr : r.toNat < xs.length := by omega
  have hx : L2.atI xs r = some xs[r.toNat] := by
    have := atI_at (List.getElem?_eq_getElem hr)
    rwa [show ((r.toNat : Nat) : Int) = r from by omega] at this
  refine ⟨xs[r.toNat], ds', ?_, hk', List.getElem_mem hr⟩
  simp only [F__law_any, C__law_any, cV_, cK_, cBin_, cCall_, cCons_, cNil_, cH_, cD_, cA_, cT_, cIf_, cAndT_, cOrT_, cNotT_, cAndV_, cOrV_, cNotV_, cChain_, cSl_, cPart_, cNoPart_, cMt_, cIsi_, cNeg_, cFn_, sNil_, sCons_, sIf_, sSet_, sPar_, sExpr_, sRet_, sRetN_, sRaise_, sBrk_, sCnt_, sStore_, fnOf_, iAny_, iR1_, iR2_, iEn_, gN_, gT_, gsN_, gsC_, stepS_, cYes_, lcF_, bT, iP, isTy, tyName, opTup, opLst, opAdd, opII, cDivB, opMul, opOrd, opEq, kD_nn, kD_ii, kD_bb, kD_ss, kD_ni, kD_nb, kD_ns, kD_in, kD_bn, kD_sn, kD_is, kD_si, kD_bs, kD_sb, kD_tuple1, kD_tuple2, kD_list1, kD_list2, kD_ib, kD_bi, opIsN, opIx, opSl, one, fLen, fInt, fAbs, fTup, fList, see, hold, toD, adopt, Rs.bind, Rs.thenS, opStore, expo, itmOf, wipeR, mAppend, mExtend, List.getElem?_cons_zero, List.getElem?_cons_succ, List.map_cons, List.map_nil, List.length_cons, List.length_nil, List.cons_append, List.nil_append, List.replicate_succ, List.replicate_zero, List.set_cons_zero, List.set_cons_succ, Nat.zero_add, Nat.reduceAdd, Nat.reduceSub, ↓reduceIte, reduceCtorEq, String.reduceBEq, kb_NoneType_int, kb_NoneType_bool, kb_NoneType_str, kb_NoneType_tuple, kb_NoneType_list, kb_NoneType_dict, kb_bool_int, kb_bool_bool, kb_bool_str, kb_bool_tuple, kb_bool_list, kb_bool_dict, kb_int_int, kb_int_bool, kb_int_str, kb_int_tuple, kb_int_list, kb_int_dict, kb_str_int, kb_str_bool, kb_str_str, kb_str_tuple, kb_str_list, kb_str_dict, kb_list_int, kb_list_bool, kb_list_str, kb_list_tuple, kb_list_list, kb_list_dict, kb_tuple_int, kb_tuple_bool, kb_tuple_str, kb_tuple_tuple, kb_tuple_list, kb_tuple_dict, kb_dict_int, kb_dict_bool, kb_dict_str, kb_dict_tuple, kb_dict_list, kb_dict_dict, String.reduceEq, Int.reduceLT, Int.reduceLE, Int.reduceNeg, Int.reducePow, Nat.reducePow, Int.reduceToNat, Nat.reduceLT, Nat.reduceLeDiff, decide_true, decide_false, and_self, and_true, true_and, or_true, true_or, or_false, false_or, Bool.not_true, Bool.not_false, Bool.true_eq_false, Bool.false_eq_true, Option.map_some, Option.map_none, e, hx, take_set]
theorem beats_ok {cs : List Nat} (h : cs.length ≤ 400) (h1 : ∀ c ∈ cs, c ≤ 400) (μ : Mem) : F_raw_beats [.d (codeD cs)] μ = .ok (.d (.str (bS cs))) μ ∧ F__law_beats [.d (codeD cs)] μ = .ok (.d (.str (bS cs))) μ := by
  have hL : cLc (iAny (cV 0)) [1] (gN 1) cYes (cBin opMul (cK (.str "10")) (cV 1)) [some (.d (codeD cs)), none] μ = .ok (.fl ((cs.map fun (c : Nat) => PyData.int (c : Int)).map fun d => match d with | .int i => .str (strRep "10" i) | d => d)) μ := by
    refine cLc_map1 _ (itm_tuple _) ?_ (nat_sizeLine (by simp; omega)) ?_
    · simp only [cV_, cK_, cBin_, cCall_, cCons_, cNil_, cH_, cD_, cA_, cT_, cIf_, cAndT_, cOrT_, cNotT_, cAndV_, cOrV_, cNotV_, cChain_, cSl_, cPart_, cNoPart_, cMt_, cIsi_, cNeg_, cFn_, sNil_, sCons_, sIf_, sSet_, sPar_, sExpr_, sRet_, sRetN_, sRaise_, sBrk_, sCnt_, sStore_, fnOf_, iAny_, iR1_, iR2_, iEn_, gN_, gT_, gsN_, gsC_, stepS_, cYes_, lcF_, bT, iP, isTy, tyName, opTup, opLst, opAdd, opII, cDivB, opMul, opOrd, opEq, kD_nn, kD_ii, kD_bb, kD_ss, kD_ni, kD_nb, kD_ns, kD_in, kD_bn, kD_sn, kD_is, kD_si, kD_bs, kD_sb, kD_tuple1, kD_tuple2, kD_list1, kD_list2, kD_ib, kD_bi, opIsN, opIx, opSl, one, fLen, fInt, fAbs, fTup, fList, see, hold, toD, adopt, Rs.bind, Rs.thenS, opStore, expo, itmOf, wipeR, mAppend, mExtend, List.getElem?_cons_zero, List.getElem?_cons_succ, List.map_cons, List.map_nil, List.length_cons, List.length_nil, List.cons_append, List.nil_append, List.replicate_succ, List.replicate_zero, List.set_cons_zero, List.set_cons_succ, Nat.zero_add, Nat.reduceAdd, Nat.reduceSub, ↓reduceIte, reduceCtorEq, String.reduceBEq, kb_NoneType_int, kb_NoneType_bool, kb_NoneType_str, kb_NoneType_tuple, kb_NoneType_list, kb_NoneType_dict, kb_bool_int, kb_bool_bool, kb_bool_str, kb_bool_tuple, kb_bool_list, kb_bool_dict, kb_int_int, kb_int_bool, kb_int_str, kb_int_tuple, kb_int_list, kb_int_dict, kb_str_int, kb_str_bool, kb_str_str, kb_str_tuple, kb_str_list, kb_str_dict, kb_list_int, kb_list_bool, kb_list_str, kb_list_tuple, kb_list_list, kb_list_dict, kb_tuple_int, kb_tuple_bool, kb_tuple_str, kb_tuple_tuple, kb_tuple_list, kb_tuple_dict, kb_dict_int, kb_dict_bool, kb_dict_str, kb_dict_tuple, kb_dict_list, kb_dict_dict, String.reduceEq, Int.reduceLT, Int.reduceLE, Int.reduceNeg, Int.reducePow, Nat.reducePow, Int.reduceToNat, Nat.reduceLT, Nat.reduceLeDiff, decide_true, decide_false, and_self, and_true, true_and, or_true, true_or, or_false, false_or, Bool.not_true, Bool.not_false, Bool.true_eq_false, Bool.false_eq_true, Option.map_some, Option.map_none, codeD]
    · intro d hd μ' _
      obtain ⟨c, hc, rfl⟩ := List.mem_map.mp hd
      have := h1 c hc
      have c1 : (-1000000 : Int) ≤ (c : Int) ∧ (c : Int) ≤ 100000 ∧ ("10" : Str).length ≤ 100 := ⟨by omega, by omega, by decide⟩
      simp only [cV_, cK_, cBin_, cCall_, cCons_, cNil_, cH_, cD_, cA_, cT_, cIf_, cAndT_, cOrT_, cNotT_, cAndV_, cOrV_, cNotV_, cChain_, cSl_, cPart_, cNoPart_, cMt_, cIsi_, cNeg_, cFn_, sNil_, sCons_, sIf_, sSet_, sPar_, sExpr_, sRet_, sRetN_, sRaise_, sBrk_, sCnt_, sStore_, fnOf_, iAny_, iR1_, iR2_, iEn_, gN_, gT_, gsN_, gsC_, stepS_, cYes_, lcF_, bT, iP, isTy, tyName, opTup, opLst, opAdd, opII, cDivB, opMul, opOrd, opEq, kD_nn, kD_ii, kD_bb, kD_ss, kD_ni, kD_nb, kD_ns, kD_in, kD_bn, kD_sn, kD_is, kD_si, kD_bs, kD_sb, kD_tuple1, kD_tuple2, kD_list1, kD_list2, kD_ib, kD_bi, opIsN, opIx, opSl, one, fLen, fInt, fAbs, fTup, fList, see, hold, toD, adopt, Rs.bind, Rs.thenS, opStore, expo, itmOf, wipeR, mAppend, mExtend, List.getElem?_cons_zero, List.getElem?_cons_succ, List.map_cons, List.map_nil, List.length_cons, List.length_nil, List.cons_append, List.nil_append, List.replicate_succ, List.replicate_zero, List.set_cons_zero, List.set_cons_succ, Nat.zero_add, Nat.reduceAdd, Nat.reduceSub, ↓reduceIte, reduceCtorEq, String.reduceBEq, kb_NoneType_int, kb_NoneType_bool, kb_NoneType_str, kb_NoneType_tuple, kb_NoneType_list, kb_NoneType_dict, kb_bool_int, kb_bool_bool, kb_bool_str, kb_bool_tuple, kb_bool_list, kb_bool_dict, kb_int_int, kb_int_bool, kb_int_str, kb_int_tuple, kb_int_list, kb_int_dict, kb_str_int, kb_str_bool, kb_str_str, kb_str_tuple, kb_str_list, kb_str_dict, kb_list_int, kb_list_bool, kb_list_str, kb_list_tuple, kb_list_list, kb_list_dict, kb_tuple_int, kb_tuple_bool, kb_tuple_str, kb_tuple_tuple, kb_tuple_list, kb_tuple_dict, kb_dict_int, kb_dict_bool, kb_dict_str, kb_dict_tuple, kb_dict_list, kb_dict_dict, String.reduceEq, Int.reduceLT, Int.reduceLE, Int.reduceNeg, Int.reducePow, Nat.reducePow, Int.reduceToNat, Nat.reduceLT, Nat.reduceLeDiff, decide_true, decide_false, and_self, and_true, true_and, or_true, true_or, or_false, false_or, Bool.not_true, Bool.not_false, Bool.true_eq_false, Bool.false_eq_true, Option.map_some, Option.map_none, c1]
  rw [List.map_map] at hL
  have e1 : (cs.map ((fun (d : PyData) => match d with | .int i => .str (strRep "10" i) | d => d) ∘ fun (c : Nat) => PyData.int (c : Int))) = (cs.map fun (c : Nat) => strRep "10" (c : Int)).map PyData.str := by rw [List.map_map]; rfl
  rw [e1] at hL
  have hsz : ((cs.map fun (c : Nat) => strRep "10" (c : Int)).map (·.length)).sum + (cs.map fun (c : Nat) => strRep "10" (c : Int)).length * ("00" : Str).length ≤ 16777216 := by
    have z : ∀ l : List Nat, (∀ c ∈ l, c ≤ 400) → ((l.map fun (c : Nat) => strRep "10" (c : Int)).map (·.length)).sum ≤ 800 * l.length := by
      intro l
      induction l with
      | nil => intro _; simp
      | cons c l ih =>
        intro hl
        have := ih fun x hx => hl x (by simp [hx])
        have h2 := hl c (by simp)
        simp only [List.map_cons, List.sum_cons, strRep_len, List.length_cons]
        omega
    have := z cs h1
    have e2 : ("00" : Str).length = 2 := by decide
    rw [List.length_map, e2]
    omega
  constructor
  · simp only [F_raw_beats, C_raw_beats, cV_, cK_, cBin_, cCall_, cCons_, cNil_, cH_, cD_, cA_, cT_, cIf_, cAndT_, cOrT_, cNotT_, cAndV_, cOrV_, cNotV_, cChain_, cSl_, cPart_, cNoPart_, cMt_, cIsi_, cNeg_, cFn_, sNil_, sCons_, sIf_, sSet_, sPar_, sExpr_, sRet_, sRetN_, sRaise_, sBrk_, sCnt_, sStore_, fnOf_, iAny_, iR1_, iR2_, iEn_, gN_, gT_, gsN_, gsC_, stepS_, cYes_, lcF_, bT, iP, isTy, tyName, opTup, opLst, opAdd, opII, cDivB, opMul, opOrd, opEq, kD_nn, kD_ii, kD_bb, kD_ss, kD_ni, kD_nb, kD_ns, kD_in, kD_bn, kD_sn, kD_is, kD_si, kD_bs, kD_sb, kD_tuple1, kD_tuple2, kD_list1, kD_list2, kD_ib, kD_bi, opIsN, opIx, opSl, one, fLen, fInt, fAbs, fTup, fList, see, hold, toD, adopt, Rs.bind, Rs.thenS, opStore, expo, itmOf, wipeR, mAppend, mExtend, List.getElem?_cons_zero, List.getElem?_cons_succ, List.map_cons, List.map_nil, List.length_cons, List.length_nil, List.cons_append, List.nil_append, List.replicate_succ, List.replicate_zero, List.set_cons_zero, List.set_cons_succ, Nat.zero_add, Nat.reduceAdd, Nat.reduceSub, ↓reduceIte, reduceCtorEq, String.reduceBEq, kb_NoneType_int, kb_NoneType_bool, kb_NoneType_str, kb_NoneType_tuple, kb_NoneType_list, kb_NoneType_dict, kb_bool_int, kb_bool_bool, kb_bool_str, kb_bool_tuple, kb_bool_list, kb_bool_dict, kb_int_int, kb_int_bool, kb_int_str, kb_int_tuple, kb_int_list, kb_int_dict, kb_str_int, kb_str_bool, kb_str_str, kb_str_tuple, kb_str_list, kb_str_dict, kb_list_int, kb_list_bool, kb_list_str, kb_list_tuple, kb_list_list, kb_list_dict, kb_tuple_int, kb_tuple_bool, kb_tuple_str, kb_tuple_tuple, kb_tuple_list, kb_tuple_dict, kb_dict_int, kb_dict_bool, kb_dict_str, kb_dict_tuple, kb_dict_list, kb_dict_dict, String.reduceEq, Int.reduceLT, Int.reduceLE, Int.reduceNeg, Int.reducePow, Nat.reducePow, Int.reduceToNat, Nat.reduceLT, Nat.reduceLeDiff, decide_true, decide_false, and_self, and_true, true_and, or_true, true_or, or_false, false_or, Bool.not_true, Bool.not_false, Bool.true_eq_false, Bool.false_eq_true, Option.map_some, Option.map_none, hL, mJoin, strsOf_map, if_pos hsz, List.take_length, bS]
  · simp only [F__law_beats, C__law_beats, cV_, cK_, cBin_, cCall_, cCons_, cNil_, cH_, cD_, cA_, cT_, cIf_, cAndT_, cOrT_, cNotT_, cAndV_, cOrV_, cNotV_, cChain_, cSl_, cPart_, cNoPart_, cMt_, cIsi_, cNeg_, cFn_, sNil_, sCons_, sIf_, sSet_, sPar_, sExpr_, sRet_, sRetN_, sRaise_, sBrk_, sCnt_, sStore_, fnOf_, iAny_, iR1_, iR2_, iEn_, gN_, gT_, gsN_, gsC_, stepS_, cYes_, lcF_, bT, iP, isTy, tyName, opTup, opLst, opAdd, opII, cDivB, opMul, opOrd, opEq, kD_nn, kD_ii, kD_bb, kD_ss, kD_ni, kD_nb, kD_ns, kD_in, kD_bn, kD_sn, kD_is, kD_si, kD_bs, kD_sb, kD_tuple1, kD_tuple2, kD_list1, kD_list2, kD_ib, kD_bi, opIsN, opIx, opSl, one, fLen, fInt, fAbs, fTup, fList, see, hold, toD, adopt, Rs.bind, Rs.thenS, opStore, expo, itmOf, wipeR, mAppend, mExtend, List.getElem?_cons_zero, List.getElem?_cons_succ, List.map_cons, List.map_nil, List.length_cons, List.length_nil, List.cons_append, List.nil_append, List.replicate_succ, List.replicate_zero, List.set_cons_zero, List.set_cons_succ, Nat.zero_add, Nat.reduceAdd, Nat.reduceSub, ↓reduceIte, reduceCtorEq, String.reduceBEq, kb_NoneType_int, kb_NoneType_bool, kb_NoneType_str, kb_NoneType_tuple, kb_NoneType_list, kb_NoneType_dict, kb_bool_int, kb_bool_bool, kb_bool_str, kb_bool_tuple, kb_bool_list, kb_bool_dict, kb_int_int, kb_int_bool, kb_int_str, kb_int_tuple, kb_int_list, kb_int_dict, kb_str_int, kb_str_bool, kb_str_str, kb_str_tuple, kb_str_list, kb_str_dict, kb_list_int, kb_list_bool, kb_list_str, kb_list_tuple, kb_list_list, kb_list_dict, kb_tuple_int, kb_tuple_bool, kb_tuple_str, kb_tuple_tuple, kb_tuple_list, kb_tuple_dict, kb_dict_int, kb_dict_bool, kb_dict_str, kb_dict_tuple, kb_dict_list, kb_dict_dict, String.reduceEq, Int.reduceLT, Int.reduceLE, Int.reduceNeg, Int.reducePow, Nat.reducePow, Int.reduceToNat, Nat.reduceLT, Nat.reduceLeDiff, decide_true, decide_false, and_self, and_true, true_and, or_true, true_or, or_false, false_or, Bool.not_true, Bool.not_false, Bool.true_eq_false, Bool.false_eq_true, Option.map_some, Option.map_none, hL, mJoin, strsOf_map, if_pos hsz, List.take_length, bS]
end L52
set_option maxRecDepth 100000
set_option maxHeartbeats 1000000
namespace L52
open PySem PySem.Spec PyProof.Rows L2 Em
open TL (tl)
theorem int_ok (x : D) (hx : noDict x = true) (μ : Mem) : F_is_integer [.d x] μ = .ok (.d (.bool (isIntD x))) μ := by
  cases x <;> first | (simp only [F_is_integer, C_is_integer, cV_, cK_, cBin_, cCall_, cCons_, cNil_, cH_, cD_, cA_, cT_, cIf_, cAndT_, cOrT_, cNotT_, cAndV_, cOrV_, cNotV_, cChain_, cSl_, cPart_, cNoPart_, cMt_, cIsi_, cNeg_, cFn_, sNil_, sCons_, sIf_, sSet_, sPar_, sExpr_, sRet_, sRetN_, sRaise_, sBrk_, sCnt_, sStore_, fnOf_, iAny_, iR1_, iR2_, iEn_, gN_, gT_, gsN_, gsC_, stepS_, cYes_, lcF_, bT, iP, isTy, tyName, opTup, opLst, opAdd, opII, cDivB, opMul, opOrd, opEq, kD_nn, kD_ii, kD_bb, kD_ss, kD_ni, kD_nb, kD_ns, kD_in, kD_bn, kD_sn, kD_is, kD_si, kD_bs, kD_sb, kD_tuple1, kD_tuple2, kD_list1, kD_list2, kD_ib, kD_bi, opIsN, opIx, opSl, one, fLen, fInt, fAbs, fTup, fList, see, hold, toD, adopt, Rs.bind, Rs.thenS, opStore, expo, itmOf, wipeR, mAppend, mExtend, List.getElem?_cons_zero, List.getElem?_cons_succ, List.map_cons, List.map_nil, List.length_cons, List.length_nil, List.cons_append, List.nil_append, List.replicate_succ, List.replicate_zero, List.set_cons_zero, List.set_cons_succ, Nat.zero_add, Nat.reduceAdd, Nat.reduceSub, ↓reduceIte, reduceCtorEq, String.reduceBEq, kb_NoneType_int, kb_NoneType_bool, kb_NoneType_str, kb_NoneType_tuple, kb_NoneType_list, kb_NoneType_dict, kb_bool_int, kb_bool_bool, kb_bool_str, kb_bool_tuple, kb_bool_list, kb_bool_dict, kb_int_int, kb_int_bool, kb_int_str, kb_int_tuple, kb_int_list, kb_int_dict, kb_str_int, kb_str_bool, kb_str_str, kb_str_tuple, kb_str_list, kb_str_dict, kb_list_int, kb_list_bool, kb_list_str, kb_list_tuple, kb_list_list, kb_list_dict, kb_tuple_int, kb_tuple_bool, kb_tuple_str, kb_tuple_tuple, kb_tuple_list, kb_tuple_dict, kb_dict_int, kb_dict_bool, kb_dict_str, kb_dict_tuple, kb_dict_list, kb_dict_dict, String.reduceEq, Int.reduceLT, Int.reduceLE, Int.reduceNeg, Int.reducePow, Nat.reducePow, Int.reduceToNat, Nat.reduceLT, Nat.reduceLeDiff, decide_true, decide_false, and_self, and_true, true_and, or_true, true_or, or_false, false_or, Bool.not_true, Bool.not_false, Bool.true_eq_false, Bool.false_eq_true, Option.map_some, Option.map_none, List.take_length, isIntD]; done) | (simp [noDict] at hx)
theorem within_ok (x : D) (lo hi : Int) (hx : noDict x = true) (μ : Mem) : F_is_within [.d x, .d (.int lo), .d (.int hi)] μ = .ok (.d (.bool (withinD lo hi x))) μ := by
  have h := int_ok x hx
  cases x <;> first | (simp only [F_is_within, C_is_within, cV_, cK_, cBin_, cCall_, cCons_, cNil_, cH_, cD_, cA_, cT_, cIf_, cAndT_, cOrT_, cNotT_, cAndV_, cOrV_, cNotV_, cChain_, cSl_, cPart_, cNoPart_, cMt_, cIsi_, cNeg_, cFn_, sNil_, sCons_, sIf_, sSet_, sPar_, sExpr_, sRet_, sRetN_, sRaise_, sBrk_, sCnt_, sStore_, fnOf_, iAny_, iR1_, iR2_, iEn_, gN_, gT_, gsN_, gsC_, stepS_, cYes_, lcF_, bT, iP, isTy, tyName, opTup, opLst, opAdd, opII, cDivB, opMul, opOrd, opEq, kD_nn, kD_ii, kD_bb, kD_ss, kD_ni, kD_nb, kD_ns, kD_in, kD_bn, kD_sn, kD_is, kD_si, kD_bs, kD_sb, kD_tuple1, kD_tuple2, kD_list1, kD_list2, kD_ib, kD_bi, opIsN, opIx, opSl, one, fLen, fInt, fAbs, fTup, fList, see, hold, toD, adopt, Rs.bind, Rs.thenS, opStore, expo, itmOf, wipeR, mAppend, mExtend, List.getElem?_cons_zero, List.getElem?_cons_succ, List.map_cons, List.map_nil, List.length_cons, List.length_nil, List.cons_append, List.nil_append, List.replicate_succ, List.replicate_zero, List.set_cons_zero, List.set_cons_succ, Nat.zero_add, Nat.reduceAdd, Nat.reduceSub, ↓reduceIte, reduceCtorEq, String.reduceBEq, kb_NoneType_int, kb_NoneType_bool, kb_NoneType_str, kb_NoneType_tuple, kb_NoneType_list, kb_NoneType_dict, kb_bool_int, kb_bool_bool, kb_bool_str, kb_bool_tuple, kb_bool_list, kb_bool_dict, kb_int_int, kb_int_bool, kb_int_str, kb_int_tuple, kb_int_list, kb_int_dict, kb_str_int, kb_str_bool, kb_str_str, kb_str_tuple, kb_str_list, kb_str_dict, kb_list_int, kb_list_bool, kb_list_str, kb_list_tuple, kb_list_list, kb_list_dict, kb_tuple_int, kb_tuple_bool, kb_tuple_str, kb_tuple_tuple, kb_tuple_list, kb_tuple_dict, kb_dict_int, kb_dict_bool, kb_dict_str, kb_dict_tuple, kb_dict_list, kb_dict_dict, String.reduceEq, Int.reduceLT, Int.reduceLE, Int.reduceNeg, Int.reducePow, Nat.reducePow, Int.reduceToNat, Nat.reduceLT, Nat.reduceLeDiff, decide_true, decide_false, and_self, and_true, true_and, or_true, true_or, or_false, false_or, Bool.not_true, Bool.not_false, Bool.true_eq_false, Bool.false_eq_true, Option.map_some, Option.map_none, h, List.take_length, isIntD, withinD]; done) | (simp [noDict] at hx; done) | skip
  rename_i i
  by_cases h1 : decide (lo ≤ i) = true
  · simp only [F_is_within, C_is_within, cV_, cK_, cBin_, cCall_, cCons_, cNil_, cH_, cD_, cA_, cT_, cIf_, cAndT_, cOrT_, cNotT_, cAndV_, cOrV_, cNotV_, cChain_, cSl_, cPart_, cNoPart_, cMt_, cIsi_, cNeg_, cFn_, sNil_, sCons_, sIf_, sSet_, sPar_, sExpr_, sRet_, sRetN_, sRaise_, sBrk_, sCnt_, sStore_, fnOf_, iAny_, iR1_, iR2_, iEn_, gN_, gT_, gsN_, gsC_, stepS_, cYes_, lcF_, bT, iP, isTy, tyName, opTup, opLst, opAdd, opII, cDivB, opMul, opOrd, opEq, kD_nn, kD_ii, kD_bb, kD_ss, kD_ni, kD_nb, kD_ns, kD_in, kD_bn, kD_sn, kD_is, kD_si, kD_bs, kD_sb, kD_tuple1, kD_tuple2, kD_list1, kD_list2, kD_ib, kD_bi, opIsN, opIx, opSl, one, fLen, fInt, fAbs, fTup, fList, see, hold, toD, adopt, Rs.bind, Rs.thenS, opStore, expo, itmOf, wipeR, mAppend, mExtend, List.getElem?_cons_zero, List.getElem?_cons_succ, List.map_cons, List.map_nil, List.length_cons, List.length_nil, List.cons_append, List.nil_append, List.replicate_succ, List.replicate_zero, List.set_cons_zero, List.set_cons_succ, Nat.zero_add, Nat.reduceAdd, Nat.reduceSub, ↓reduceIte, reduceCtorEq, String.reduceBEq, kb_NoneType_int, kb_NoneType_bool, kb_NoneType_str, kb_NoneType_tuple, kb_NoneType_list, kb_NoneType_dict, kb_bool_int, kb_bool_bool, kb_bool_str, kb_bool_tuple, kb_bool_list, kb_bool_dict, kb_int_int, kb_int_bool, kb_int_str, kb_int_tuple, kb_int_list, kb_int_dict, kb_str_int, kb_str_bool, kb_str_str, kb_str_tuple, kb_str_list, kb_str_dict, kb_list_int, kb_list_bool, kb_list_str, kb_list_tuple, kb_list_list, kb_list_dict, kb_tuple_int, kb_tuple_bool, kb_tuple_str, kb_tuple_tuple, kb_tuple_list, kb_tuple_dict, kb_dict_int, kb_dict_bool, kb_dict_str, kb_dict_tuple, kb_dict_list, kb_dict_dict, String.reduceEq, Int.reduceLT, Int.reduceLE, Int.reduceNeg, Int.reducePow, Nat.reducePow, Int.reduceToNat, Nat.reduceLT, Nat.reduceLeDiff, decide_true, decide_false, and_self, and_true, true_and, or_true, true_or, or_false, false_or, Bool.not_true, Bool.not_false, Bool.true_eq_false, Bool.false_eq_true, Option.map_some, Option.map_none, h, List.take_length, isIntD, withinD, h1]
    have := of_decide_eq_true h1
    simp [this]
  · have h1' := Bool.eq_false_iff.mpr h1
    simp only [F_is_within, C_is_within, cV_, cK_, cBin_, cCall_, cCons_, cNil_, cH_, cD_, cA_, cT_, cIf_, cAndT_, cOrT_, cNotT_, cAndV_, cOrV_, cNotV_, cChain_, cSl_, cPart_, cNoPart_, cMt_, cIsi_, cNeg_, cFn_, sNil_, sCons_, sIf_, sSet_, sPar_, sExpr_, sRet_, sRetN_, sRaise_, sBrk_, sCnt_, sStore_, fnOf_, iAny_, iR1_, iR2_, iEn_, gN_, gT_, gsN_, gsC_, stepS_, cYes_, lcF_, bT, iP, isTy, tyName, opTup, opLst, opAdd, opII, cDivB, opMul, opOrd, opEq, kD_nn, kD_ii, kD_bb, kD_ss, kD_ni, kD_nb, kD_ns, kD_in, kD_bn, kD_sn, kD_is, kD_si, kD_bs, kD_sb, kD_tuple1, kD_tuple2, kD_list1, kD_list2, kD_ib, kD_bi, opIsN, opIx, opSl, one, fLen, fInt, fAbs, fTup, fList, see, hold, toD, adopt, Rs.bind, Rs.thenS, opStore, expo, itmOf, wipeR, mAppend, mExtend, List.getElem?_cons_zero, List.getElem?_cons_succ, List.map_cons, List.map_nil, List.length_cons, List.length_nil, List.cons_append, List.nil_append, List.replicate_succ, List.replicate_zero, List.set_cons_zero, List.set_cons_succ, Nat.zero_add, Nat.reduceAdd, Nat.reduceSub, ↓reduceIte, reduceCtorEq, String.reduceBEq, kb_NoneType_int, kb_NoneType_bool, kb_NoneType_str, kb_NoneType_tuple, kb_NoneType_list, kb_NoneType_dict, kb_bool_int, kb_bool_bool, kb_bool_str, kb_bool_tuple, kb_bool_list, kb_bool_dict, kb_int_int, kb_int_bool, kb_int_str, kb_int_tuple, kb_int_list, kb_int_dict, kb_str_int, kb_str_bool, kb_str_str, kb_str_tuple, kb_str_list, kb_str_dict, kb_list_int, kb_list_bool, kb_list_str, kb_list_tuple, kb_list_list, kb_list_dict, kb_tuple_int, kb_tuple_bool, kb_tuple_str, kb_tuple_tuple, kb_tuple_list, kb_tuple_dict, kb_dict_int, kb_dict_bool, kb_dict_str, kb_dict_tuple, kb_dict_list, kb_dict_dict, String.reduceEq, Int.reduceLT, Int.reduceLE, Int.reduceNeg, Int.reducePow, Nat.reducePow, Int.reduceToNat, Nat.reduceLT, Nat.reduceLeDiff, decide_true, decide_false, and_self, and_true, true_and, or_true, true_or, or_false, false_or, Bool.not_true, Bool.not_false, Bool.true_eq_false, Bool.false_eq_true, Option.map_some, Option.map_none, h, List.take_length, isIntD, withinD, h1']
    have : ¬ lo ≤ i := of_decide_eq_false h1'
    simp [this]
theorem sized_ok (x : D) (lo hi : Int) (hx : noDict x = true) (μ : Mem) : F_is_sized [.d x, .d (.int lo), .d (.int hi)] μ = .ok (.d (.bool (sizedD lo hi x))) μ := by
  cases x <;> first | (simp only [F_is_sized, C_is_sized, cV_, cK_, cBin_, cCall_, cCons_, cNil_, cH_, cD_, cA_, cT_, cIf_, cAndT_, cOrT_, cNotT_, cAndV_, cOrV_, cNotV_, cChain_, cSl_, cPart_, cNoPart_, cMt_, cIsi_, cNeg_, cFn_, sNil_, sCons_, sIf_, sSet_, sPar_, sExpr_, sRet_, sRetN_, sRaise_, sBrk_, sCnt_, sStore_, fnOf_, iAny_, iR1_, iR2_, iEn_, gN_, gT_, gsN_, gsC_, stepS_, cYes_, lcF_, bT, iP, isTy, tyName, opTup, opLst, opAdd, opII, cDivB, opMul, opOrd, opEq, kD_nn, kD_ii, kD_bb, kD_ss, kD_ni, kD_nb, kD_ns, kD_in, kD_bn, kD_sn, kD_is, kD_si, kD_bs, kD_sb, kD_tuple1, kD_tuple2, kD_list1, kD_list2, kD_ib, kD_bi, opIsN, opIx, opSl, one, fLen, fInt, fAbs, fTup, fList, see, hold, toD, adopt, Rs.bind, Rs.thenS, opStore, expo, itmOf, wipeR, mAppend, mExtend, List.getElem?_cons_zero, List.getElem?_cons_succ, List.map_cons, List.map_nil, List.length_cons, List.length_nil, List.cons_append, List.nil_append, List.replicate_succ, List.replicate_zero, List.set_cons_zero, List.set_cons_succ, Nat.zero_add, Nat.reduceAdd, Nat.reduceSub, ↓reduceIte, reduceCtorEq, String.reduceBEq, kb_NoneType_int, kb_NoneType_bool, kb_NoneType_str, kb_NoneType_tuple, kb_NoneType_list, kb_NoneType_dict, kb_bool_int, kb_bool_bool, kb_bool_str, kb_bool_tuple, kb_bool_list, kb_bool_dict, kb_int_int, kb_int_bool, kb_int_str, kb_int_tuple, kb_int_list, kb_int_dict, kb_str_int, kb_str_bool, kb_str_str, kb_str_tuple, kb_str_list, kb_str_dict, kb_list_int, kb_list_bool, kb_list_str, kb_list_tuple, kb_list_list, kb_list_dict, kb_tuple_int, kb_tuple_bool, kb_tuple_str, kb_tuple_tuple, kb_tuple_list, kb_tuple_dict, kb_dict_int, kb_dict_bool, kb_dict_str, kb_dict_tuple, kb_dict_list, kb_dict_dict, String.reduceEq, Int.reduceLT, Int.reduceLE, Int.reduceNeg, Int.reducePow, Nat.reducePow, Int.reduceToNat, Nat.reduceLT, Nat.reduceLeDiff, decide_true, decide_false, and_self, and_true, true_and, or_true, true_or, or_false, false_or, Bool.not_true, Bool.not_false, Bool.true_eq_false, Bool.false_eq_true, Option.map_some, Option.map_none, List.take_length, sizedD]; done) | (simp [noDict] at hx; done) | skip
  rename_i xs
  by_cases h1 : decide (lo ≤ ((xs.length : Nat) : Int)) = true
  · simp only [F_is_sized, C_is_sized, cV_, cK_, cBin_, cCall_, cCons_, cNil_, cH_, cD_, cA_, cT_, cIf_, cAndT_, cOrT_, cNotT_, cAndV_, cOrV_, cNotV_, cChain_, cSl_, cPart_, cNoPart_, cMt_, cIsi_, cNeg_, cFn_, sNil_, sCons_, sIf_, sSet_, sPar_, sExpr_, sRet_, sRetN_, sRaise_, sBrk_, sCnt_, sStore_, fnOf_, iAny_, iR1_, iR2_, iEn_, gN_, gT_, gsN_, gsC_, stepS_, cYes_, lcF_, bT, iP, isTy, tyName, opTup, opLst, opAdd, opII, cDivB, opMul, opOrd, opEq, kD_nn, kD_ii, kD_bb, kD_ss, kD_ni, kD_nb, kD_ns, kD_in, kD_bn, kD_sn, kD_is, kD_si, kD_bs, kD_sb, kD_tuple1, kD_tuple2, kD_list1, kD_list2, kD_ib, kD_bi, opIsN, opIx, opSl, one, fLen, fInt, fAbs, fTup, fList, see, hold, toD, adopt, Rs.bind, Rs.thenS, opStore, expo, itmOf, wipeR, mAppend, mExtend, List.getElem?_cons_zero, List.getElem?_cons_succ, List.map_cons, List.map_nil, List.length_cons, List.length_nil, List.cons_append, List.nil_append, List.replicate_succ, List.replicate_zero, List.set_cons_zero, List.set_cons_succ, Nat.zero_add, Nat.reduceAdd, Nat.reduceSub, ↓reduceIte, reduceCtorEq, String.reduceBEq, kb_NoneType_int, kb_NoneType_bool, kb_NoneType_str, kb_NoneType_tuple, kb_NoneType_list, kb_NoneType_dict, kb_bool_int, kb_bool_bool, kb_bool_str, kb_bool_tuple, kb_bool_list, kb_bool_dict, kb_int_int, kb_int_bool, kb_int_str, kb_int_tuple, kb_int_list, kb_int_dict, kb_str_int, kb_str_bool, kb_str_str, kb_str_tuple, kb_str_list, kb_str_dict, kb_list_int, kb_list_bool, kb_list_str, kb_list_tuple, kb_list_list, kb_list_dict, kb_tuple_int, kb_tuple_bool, kb_tuple_str, kb_tuple_tuple, kb_tuple_list, kb_tuple_dict, kb_dict_int, kb_dict_bool, kb_dict_str, kb_dict_tuple, kb_dict_list, kb_dict_dict, String.reduceEq, Int.reduceLT, Int.reduceLE, Int.reduceNeg, Int.reducePow, Nat.reducePow, Int.reduceToNat, Nat.reduceLT, Nat.reduceLeDiff, decide_true, decide_false, and_self, and_true, true_and, or_true, true_or, or_false, false_or, Bool.not_true, Bool.not_false, Bool.true_eq_false, Bool.false_eq_true, Option.map_some, Option.map_none, List.take_length, sizedD, h1]
    have := of_decide_eq_true h1
    simp [this]
  · have h1' := Bool.eq_false_iff.mpr h1
    simp only [F_is_sized, C_is_sized, cV_, cK_, cBin_, cCall_, cCons_, cNil_, cH_, cD_, cA_, cT_, cIf_, cAndT_, cOrT_, cNotT_, cAndV_, cOrV_, cNotV_, cChain_, cSl_, cPart_, cNoPart_, cMt_, cIsi_, cNeg_, cFn_, sNil_, sCons_, sIf_, sSet_, sPar_, sExpr_, sRet_, sRetN_, sRaise_, sBrk_, sCnt_, sStore_, fnOf_, iAny_, iR1_, iR2_, iEn_, gN_, gT_, gsN_, gsC_, stepS_, cYes_, lcF_, bT, iP, isTy, tyName, opTup, opLst, opAdd, opII, cDivB, opMul, opOrd, opEq, kD_nn, kD_ii, kD_bb, kD_ss, kD_ni, kD_nb, kD_ns, kD_in, kD_bn, kD_sn, kD_is, kD_si, kD_bs, kD_sb, kD_tuple1, kD_tuple2, kD_list1, kD_list2, kD_ib, kD_bi, opIsN, opIx, opSl, one, fLen, fInt, fAbs, fTup, fList, see, hold, toD, adopt, Rs.bind, Rs.thenS, opStore, expo, itmOf, wipeR, mAppend, mExtend, List.getElem?_cons_zero, List.getElem?_cons_succ, List.map_cons, List.map_nil, List.length_cons, List.length_nil, List.cons_append, List.nil_append, List.replicate_succ, List.replicate_zero, List.set_cons_zero, List.set_cons_succ, Nat.zero_add, Nat.reduceAdd, Nat.reduceSub, ↓reduceIte, reduceCtorEq, String.reduceBEq, kb_NoneType_int, kb_NoneType_bool, kb_NoneType_str, kb_NoneType_tuple, kb_NoneType_list, kb_NoneType_dict, kb_bool_int, kb_bool_bool, kb_bool_str, kb_bool_tuple, kb_bool_list, kb_bool_dict, kb_int_int, kb_int_bool, kb_int_str, kb_int_tuple, kb_int_list, kb_int_dict, kb_str_int, kb_str_bool, kb_str_str, kb_str_tuple, kb_str_list, kb_str_dict, kb_list_int, kb_list_bool, kb_list_str, kb_list_tuple, kb_list_list, kb_list_dict, kb_tuple_int, kb_tuple_bool, kb_tuple_str, kb_tuple_tuple, kb_tuple_list, kb_tuple_dict, kb_dict_int, kb_dict_bool, kb_dict_str, kb_dict_tuple, kb_dict_list, kb_dict_dict, String.reduceEq, Int.reduceLT, Int.reduceLE, Int.reduceNeg, Int.reducePow, Nat.reducePow, Int.reduceToNat, Nat.reduceLT, Nat.reduceLeDiff, decide_true, decide_false, and_self, and_true, true_and, or_true, true_or, or_false, false_or, Bool.not_true, Bool.not_false, Bool.true_eq_false, Bool.false_eq_true, Option.map_some, Option.map_none, List.take_length, sizedD, h1']
    have : ¬ lo ≤ ((xs.length : Nat) : Int) := of_decide_eq_false h1'
    simp [this]
/-- whether it's a code -/
def codeB (x : D) : Bool := match x with
  | .tuple xs => sizedD 1 4 x && xs.all (withinD 1 9)
  | _ => false
theorem is_code_ok (x : D) (hx : noDict x = true) (hx2 : ∀ xs, x = .tuple xs → xs.length ≤ 1000 ∧ ∀ y ∈ xs, noDict y = true) (μ : Mem) : F_is_code [.d x] μ = .ok (.d (.bool (codeB x))) μ := by
  have h := sized_ok x 1 4 hx
  cases x <;> first | (simp only [F_is_code, C_is_code, cV_, cK_, cBin_, cCall_, cCons_, cNil_, cH_, cD_, cA_, cT_, cIf_, cAndT_, cOrT_, cNotT_, cAndV_, cOrV_, cNotV_, cChain_, cSl_, cPart_, cNoPart_, cMt_, cIsi_, cNeg_, cFn_, sNil_, sCons_, sIf_, sSet_, sPar_, sExpr_, sRet_, sRetN_, sRaise_, sBrk_, sCnt_, sStore_, fnOf_, iAny_, iR1_, iR2_, iEn_, gN_, gT_, gsN_, gsC_, stepS_, cYes_, lcF_, bT, iP, isTy, tyName, opTup, opLst, opAdd, opII, cDivB, opMul, opOrd, opEq, kD_nn, kD_ii, kD_bb, kD_ss, kD_ni, kD_nb, kD_ns, kD_in, kD_bn, kD_sn, kD_is, kD_si, kD_bs, kD_sb, kD_tuple1, kD_tuple2, kD_list1, kD_list2, kD_ib, kD_bi, opIsN, opIx, opSl, one, fLen, fInt, fAbs, fTup, fList, see, hold, toD, adopt, Rs.bind, Rs.thenS, opStore, expo, itmOf, wipeR, mAppend, mExtend, List.getElem?_cons_zero, List.getElem?_cons_succ, List.map_cons, List.map_nil, List.length_cons, List.length_nil, List.cons_append, List.nil_append, List.replicate_succ, List.replicate_zero, List.set_cons_zero, List.set_cons_succ, Nat.zero_add, Nat.reduceAdd, Nat.reduceSub, ↓reduceIte, reduceCtorEq, String.reduceBEq, kb_NoneType_int, kb_NoneType_bool, kb_NoneType_str, kb_NoneType_tuple, kb_NoneType_list, kb_NoneType_dict, kb_bool_int, kb_bool_bool, kb_bool_str, kb_bool_tuple, kb_bool_list, kb_bool_dict, kb_int_int, kb_int_bool, kb_int_str, kb_int_tuple, kb_int_list, kb_int_dict, kb_str_int, kb_str_bool, kb_str_str, kb_str_tuple, kb_str_list, kb_str_dict, kb_list_int, kb_list_bool, kb_list_str, kb_list_tuple, kb_list_list, kb_list_dict, kb_tuple_int, kb_tuple_bool, kb_tuple_str, kb_tuple_tuple, kb_tuple_list, kb_tuple_dict, kb_dict_int, kb_dict_bool, kb_dict_str, kb_dict_tuple, kb_dict_list, kb_dict_dict, String.reduceEq, Int.reduceLT, Int.reduceLE, Int.reduceNeg, Int.reducePow, Nat.reducePow, Int.reduceToNat, Nat.reduceLT, Nat.reduceLeDiff, decide_true, decide_false, and_self, and_true, true_and, or_true, true_or, or_false, false_or, Bool.not_true, Bool.not_false, Bool.true_eq_false, Bool.false_eq_true, Option.map_some, Option.map_none, h, List.take_length, codeB, sizedD]; done) | (simp [noDict] at hx; done) | skip
  rename_i xs
  obtain ⟨h2, h3⟩ := hx2 xs rfl
  have hL : ∀ μ, cLc (iAny (cV 0)) [1] (gN 1) cYes (cFn 3 F_is_within (cCons (cV 1) (cCons (cK (.int 1)) (cCons (cK (.int 9)) cNil)))) [some (.d (.tuple xs)), none] μ = .ok (.fl ((xs.map (withinD 1 9)).map .bool)) μ := fun μ => by
    rw [List.map_map]
    refine cLc_map1 _ (itm_tuple _) ?_ (nat_sizeLine (by omega)) ?_
    · simp only [cV_, cK_, cBin_, cCall_, cCons_, cNil_, cH_, cD_, cA_, cT_, cIf_, cAndT_, cOrT_, cNotT_, cAndV_, cOrV_, cNotV_, cChain_, cSl_, cPart_, cNoPart_, cMt_, cIsi_, cNeg_, cFn_, sNil_, sCons_, sIf_, sSet_, sPar_, sExpr_, sRet_, sRetN_, sRaise_, sBrk_, sCnt_, sStore_, fnOf_, iAny_, iR1_, iR2_, iEn_, gN_, gT_, gsN_, gsC_, stepS_, cYes_, lcF_, bT, iP, isTy, tyName, opTup, opLst, opAdd, opII, cDivB, opMul, opOrd, opEq, kD_nn, kD_ii, kD_bb, kD_ss, kD_ni, kD_nb, kD_ns, kD_in, kD_bn, kD_sn, kD_is, kD_si, kD_bs, kD_sb, kD_tuple1, kD_tuple2, kD_list1, kD_list2, kD_ib, kD_bi, opIsN, opIx, opSl, one, fLen, fInt, fAbs, fTup, fList, see, hold, toD, adopt, Rs.bind, Rs.thenS, opStore, expo, itmOf, wipeR, mAppend, mExtend, List.getElem?_cons_zero, List.getElem?_cons_succ, List.map_cons, List.map_nil, List.length_cons, List.length_nil, List.cons_append, List.nil_append, List.replicate_succ, List.replicate_zero, List.set_cons_zero, List.set_cons_succ, Nat.zero_add, Nat.reduceAdd, Nat.reduceSub, ↓reduceIte, reduceCtorEq, String.reduceBEq, kb_NoneType_int, kb_NoneType_bool, kb_NoneType_str, kb_NoneType_tuple, kb_NoneType_list, kb_NoneType_dict, kb_bool_int, kb_bool_bool, kb_bool_str, kb_bool_tuple, kb_bool_list, kb_bool_dict, kb_int_int, kb_int_bool, kb_int_str, kb_int_tuple, kb_int_list, kb_int_dict, kb_str_int, kb_str_bool, kb_str_str, kb_str_tuple, kb_str_list, kb_str_dict, kb_list_int, kb_list_bool, kb_list_str, kb_list_tuple, kb_list_list, kb_list_dict, kb_tuple_int, kb_tuple_bool, kb_tuple_str, kb_tuple_tuple, kb_tuple_list, kb_tuple_dict, kb_dict_int, kb_dict_bool, kb_dict_str, kb_dict_tuple, kb_dict_list, kb_dict_dict, String.reduceEq, Int.reduceLT, Int.reduceLE, Int.reduceNeg, Int.reducePow, Nat.reducePow, Int.reduceToNat, Nat.reduceLT, Nat.reduceLeDiff, decide_true, decide_false, and_self, and_true, true_and, or_true, true_or, or_false, false_or, Bool.not_true, Bool.not_false, Bool.true_eq_false, Bool.false_eq_true, Option.map_some, Option.map_none]
    · intro d hd μ' _
      simp only [cV_, cK_, cBin_, cCall_, cCons_, cNil_, cH_, cD_, cA_, cT_, cIf_, cAndT_, cOrT_, cNotT_, cAndV_, cOrV_, cNotV_, cChain_, cSl_, cPart_, cNoPart_, cMt_, cIsi_, cNeg_, cFn_, sNil_, sCons_, sIf_, sSet_, sPar_, sExpr_, sRet_, sRetN_, sRaise_, sBrk_, sCnt_, sStore_, fnOf_, iAny_, iR1_, iR2_, iEn_, gN_, gT_, gsN_, gsC_, stepS_, cYes_, lcF_, bT, iP, isTy, tyName, opTup, opLst, opAdd, opII, cDivB, opMul, opOrd, opEq, kD_nn, kD_ii, kD_bb, kD_ss, kD_ni, kD_nb, kD_ns, kD_in, kD_bn, kD_sn, kD_is, kD_si, kD_bs, kD_sb, kD_tuple1, kD_tuple2, kD_list1, kD_list2, kD_ib, kD_bi, opIsN, opIx, opSl, one, fLen, fInt, fAbs, fTup, fList, see, hold, toD, adopt, Rs.bind, Rs.thenS, opStore, expo, itmOf, wipeR, mAppend, mExtend, List.getElem?_cons_zero, List.getElem?_cons_succ, List.map_cons, List.map_nil, List.length_cons, List.length_nil, List.cons_append, List.nil_append, List.replicate_succ, List.replicate_zero, List.set_cons_zero, List.set_cons_succ, Nat.zero_add, Nat.reduceAdd, Nat.reduceSub, ↓reduceIte, reduceCtorEq, String.reduceBEq, kb_NoneType_int, kb_NoneType_bool, kb_NoneType_str, kb_NoneType_tuple, kb_NoneType_list, kb_NoneType_dict, kb_bool_int, kb_bool_bool, kb_bool_str, kb_bool_tuple, kb_bool_list, kb_bool_dict, kb_int_int, kb_int_bool, kb_int_str, kb_int_tuple, kb_int_list, kb_int_dict, kb_str_int, kb_str_bool, kb_str_str, kb_str_tuple, kb_str_list, kb_str_dict, kb_list_int, kb_list_bool, kb_list_str, kb_list_tuple, kb_list_list, kb_list_dict, kb_tuple_int, kb_tuple_bool, kb_tuple_str, kb_tuple_tuple, kb_tuple_list, kb_tuple_dict, kb_dict_int, kb_dict_bool, kb_dict_str, kb_dict_tuple, kb_dict_list, kb_dict_dict, String.reduceEq, Int.reduceLT, Int.reduceLE, Int.reduceNeg, Int.reducePow, Nat.reducePow, Int.reduceToNat, Nat.reduceLT, Nat.reduceLeDiff, decide_true, decide_false, and_self, and_true, true_and, or_true, true_or, or_false, false_or, Bool.not_true, Bool.not_false, Bool.true_eq_false, Bool.false_eq_true, Option.map_some, Option.map_none, within_ok d 1 9 (h3 d hd), Function.comp]
  by_cases h1 : sizedD 1 4 (.tuple xs) = true
  · simp only [F_is_code, C_is_code, cV_, cK_, cBin_, cCall_, cCons_, cNil_, cH_, cD_, cA_, cT_, cIf_, cAndT_, cOrT_, cNotT_, cAndV_, cOrV_, cNotV_, cChain_, cSl_, cPart_, cNoPart_, cMt_, cIsi_, cNeg_, cFn_, sNil_, sCons_, sIf_, sSet_, sPar_, sExpr_, sRet_, sRetN_, sRaise_, sBrk_, sCnt_, sStore_, fnOf_, iAny_, iR1_, iR2_, iEn_, gN_, gT_, gsN_, gsC_, stepS_, cYes_, lcF_, bT, iP, isTy, tyName, opTup, opLst, opAdd, opII, cDivB, opMul, opOrd, opEq, kD_nn, kD_ii, kD_bb, kD_ss, kD_ni, kD_nb, kD_ns, kD_in, kD_bn, kD_sn, kD_is, kD_si, kD_bs, kD_sb, kD_tuple1, kD_tuple2, kD_list1, kD_list2, kD_ib, kD_bi, opIsN, opIx, opSl, one, fLen, fInt, fAbs, fTup, fList, see, hold, toD, adopt, Rs.bind, Rs.thenS, opStore, expo, itmOf, wipeR, mAppend, mExtend, List.getElem?_cons_zero, List.getElem?_cons_succ, List.map_cons, List.map_nil, List.length_cons, List.length_nil, List.cons_append, List.nil_append, List.replicate_succ, List.replicate_zero, List.set_cons_zero, List.set_cons_succ, Nat.zero_add, Nat.reduceAdd, Nat.reduceSub, ↓reduceIte, reduceCtorEq, String.reduceBEq, kb_NoneType_int, kb_NoneType_bool, kb_NoneType_str, kb_NoneType_tuple, kb_NoneType_list, kb_NoneType_dict, kb_bool_int, kb_bool_bool, kb_bool_str, kb_bool_tuple, kb_bool_list, kb_bool_dict, kb_int_int, kb_int_bool, kb_int_str, kb_int_tuple, kb_int_list, kb_int_dict, kb_str_int, kb_str_bool, kb_str_str, kb_str_tuple, kb_str_list, kb_str_dict, kb_list_int, kb_list_bool, kb_list_str, kb_list_tuple, kb_list_list, kb_list_dict, kb_tuple_int, kb_tuple_bool, kb_tuple_str, kb_tuple_tuple, kb_tuple_list, kb_tuple_dict, kb_dict_int, kb_dict_bool, kb_dict_str, kb_dict_tuple, kb_dict_list, kb_dict_dict, String.reduceEq, Int.reduceLT, Int.reduceLE, Int.reduceNeg, Int.reducePow, Nat.reducePow, Int.reduceToNat, Nat.reduceLT, Nat.reduceLeDiff, decide_true, decide_false, and_self, and_true, true_and, or_true, true_or, or_false, false_or, Bool.not_true, Bool.not_false, Bool.true_eq_false, Bool.false_eq_true, Option.map_some, Option.map_none, h, h1, hL, List.take_length, codeB, fBools, boolsOf_map, List.all_map]
    simp
  · have h1' := Bool.eq_false_iff.mpr h1
    simp only [F_is_code, C_is_code, cV_, cK_, cBin_, cCall_, cCons_, cNil_, cH_, cD_, cA_, cT_, cIf_, cAndT_, cOrT_, cNotT_, cAndV_, cOrV_, cNotV_, cChain_, cSl_, cPart_, cNoPart_, cMt_, cIsi_, cNeg_, cFn_, sNil_, sCons_, sIf_, sSet_, sPar_, sExpr_, sRet_, sRetN_, sRaise_, sBrk_, sCnt_, sStore_, fnOf_, iAny_, iR1_, iR2_, iEn_, gN_, gT_, gsN_, gsC_, stepS_, cYes_, lcF_, bT, iP, isTy, tyName, opTup, opLst, opAdd, opII, cDivB, opMul, opOrd, opEq, kD_nn, kD_ii, kD_bb, kD_ss, kD_ni, kD_nb, kD_ns, kD_in, kD_bn, kD_sn, kD_is, kD_si, kD_bs, kD_sb, kD_tuple1, kD_tuple2, kD_list1, kD_list2, kD_ib, kD_bi, opIsN, opIx, opSl, one, fLen, fInt, fAbs, fTup, fList, see, hold, toD, adopt, Rs.bind, Rs.thenS, opStore, expo, itmOf, wipeR, mAppend, mExtend, List.getElem?_cons_zero, List.getElem?_cons_succ, List.map_cons, List.map_nil, List.length_cons, List.length_nil, List.cons_append, List.nil_append, List.replicate_succ, List.replicate_zero, List.set_cons_zero, List.set_cons_succ, Nat.zero_add, Nat.reduceAdd, Nat.reduceSub, ↓reduceIte, reduceCtorEq, String.reduceBEq, kb_NoneType_int, kb_NoneType_bool, kb_NoneType_str, kb_NoneType_tuple, kb_NoneType_list, kb_NoneType_dict, kb_bool_int, kb_bool_bool, kb_bool_str, kb_bool_tuple, kb_bool_list, kb_bool_dict, kb_int_int, kb_int_bool, kb_int_str, kb_int_tuple, kb_int_list, kb_int_dict, kb_str_int, kb_str_bool, kb_str_str, kb_str_tuple, kb_str_list, kb_str_dict, kb_list_int, kb_list_bool, kb_list_str, kb_list_tuple, kb_list_list, kb_list_dict, kb_tuple_int, kb_tuple_bool, kb_tuple_str, kb_tuple_tuple, kb_tuple_list, kb_tuple_dict, kb_dict_int, kb_dict_bool, kb_dict_str, kb_dict_tuple, kb_dict_list, kb_dict_dict, String.reduceEq, Int.reduceLT, Int.reduceLE, Int.reduceNeg, Int.reducePow, Nat.reducePow, Int.reduceToNat, Nat.reduceLT, Nat.reduceLeDiff, decide_true, decide_false, and_self, and_true, true_and, or_true, true_or, or_false, false_or, Bool.not_true, Bool.not_false, Bool.true_eq_false, Bool.false_eq_true, Option.map_some, Option.map_none, h, h1', List.take_length, codeB]
    simp
theorem codeB_codeD (cs : List Nat) : codeB (codeD cs) = isCode cs := by
  unfold codeB codeD isCode
  simp only [sizedD, List.length_map, List.all_map]
  congr 1
  · congr 1
    apply propext
    omega
  · congr 1
    funext c
    show decide _ = decide _
    congr 1
    apply propext
    omega
/-! ### texts -/
theorem sign_in {c : Nat} (h : c = 48 ∨ c = 49) : SeqAt.shaped (.str ⟨#[c]⟩) = true ∧ PyData.canLayAll0 [.str "0", .str "1"] = true ∧ ([.str "0", .str "1"].any fun z => PyData.eqv z (.str ⟨#[c]⟩)) = true := by
  rcases h with rfl | rfl <;> decide +kernel
theorem is_beats_ok {t : Str} (hb : bits t) (hl : t.length ≤ 400) (μ : Mem) : F_is_beats [.d (.str t)] μ = .ok (.d (.bool true)) μ := by
  have h2 : (2 : Nat) ≤ sizeLine := by decide
  have hl2 : t.length ≤ sizeLine := nat_sizeLine (by omega)
  have hl3 : decide (((t.length : Nat) : Int) ≤ 400) = true := decide_eq_true (by omega)
  have hL : ∀ μ, cLc (iAny (cV 0)) [1] (gN 1) cYes (cBin (opIn false) (cV 1) (cH (cCall opTup (cCons (cK (.str "0")) (cCons (cK (.str "1")) cNil))))) [some (.d (.str t)), none] μ = .ok (.fl (((signsD t).map fun _ => true).map .bool)) μ := fun μ => by
    rw [List.map_map]
    refine cLc_map1 _ (itm_txt _) ?_ (nat_sizeLine (by simp [signsD]; have : t.cps.size = t.length := rfl; omega)) ?_
    · simp only [cV_, cK_, cBin_, cCall_, cCons_, cNil_, cH_, cD_, cA_, cT_, cIf_, cAndT_, cOrT_, cNotT_, cAndV_, cOrV_, cNotV_, cChain_, cSl_, cPart_, cNoPart_, cMt_, cIsi_, cNeg_, cFn_, sNil_, sCons_, sIf_, sSet_, sPar_, sExpr_, sRet_, sRetN_, sRaise_, sBrk_, sCnt_, sStore_, fnOf_, iAny_, iR1_, iR2_, iEn_, gN_, gT_, gsN_, gsC_, stepS_, cYes_, lcF_, bT, iP, isTy, tyName, opTup, opLst, opAdd, opII, cDivB, opMul, opOrd, opEq, kD_nn, kD_ii, kD_bb, kD_ss, kD_ni, kD_nb, kD_ns, kD_in, kD_bn, kD_sn, kD_is, kD_si, kD_bs, kD_sb, kD_tuple1, kD_tuple2, kD_list1, kD_list2, kD_ib, kD_bi, opIsN, opIx, opSl, one, fLen, fInt, fAbs, fTup, fList, see, hold, toD, adopt, Rs.bind, Rs.thenS, opStore, expo, itmOf, wipeR, mAppend, mExtend, List.getElem?_cons_zero, List.getElem?_cons_succ, List.map_cons, List.map_nil, List.length_cons, List.length_nil, List.cons_append, List.nil_append, List.replicate_succ, List.replicate_zero, List.set_cons_zero, List.set_cons_succ, Nat.zero_add, Nat.reduceAdd, Nat.reduceSub, ↓reduceIte, reduceCtorEq, String.reduceBEq, kb_NoneType_int, kb_NoneType_bool, kb_NoneType_str, kb_NoneType_tuple, kb_NoneType_list, kb_NoneType_dict, kb_bool_int, kb_bool_bool, kb_bool_str, kb_bool_tuple, kb_bool_list, kb_bool_dict, kb_int_int, kb_int_bool, kb_int_str, kb_int_tuple, kb_int_list, kb_int_dict, kb_str_int, kb_str_bool, kb_str_str, kb_str_tuple, kb_str_list, kb_str_dict, kb_list_int, kb_list_bool, kb_list_str, kb_list_tuple, kb_list_list, kb_list_dict, kb_tuple_int, kb_tuple_bool, kb_tuple_str, kb_tuple_tuple, kb_tuple_list, kb_tuple_dict, kb_dict_int, kb_dict_bool, kb_dict_str, kb_dict_tuple, kb_dict_list, kb_dict_dict, String.reduceEq, Int.reduceLT, Int.reduceLE, Int.reduceNeg, Int.reducePow, Nat.reducePow, Int.reduceToNat, Nat.reduceLT, Nat.reduceLeDiff, decide_true, decide_false, and_self, and_true, true_and, or_true, true_or, or_false, false_or, Bool.not_true, Bool.not_false, Bool.true_eq_false, Bool.false_eq_true, Option.map_some, Option.map_none]
    · intro d hd μ' _
      obtain ⟨c, hc, rfl⟩ := List.mem_map.mp hd
      obtain ⟨k1, k2, k3⟩ := sign_in (hb c hc)
      simp only [cV_, cK_, cBin_, cCall_, cCons_, cNil_, cH_, cD_, cA_, cT_, cIf_, cAndT_, cOrT_, cNotT_, cAndV_, cOrV_, cNotV_, cChain_, cSl_, cPart_, cNoPart_, cMt_, cIsi_, cNeg_, cFn_, sNil_, sCons_, sIf_, sSet_, sPar_, sExpr_, sRet_, sRetN_, sRaise_, sBrk_, sCnt_, sStore_, fnOf_, iAny_, iR1_, iR2_, iEn_, gN_, gT_, gsN_, gsC_, stepS_, cYes_, lcF_, bT, iP, isTy, tyName, opTup, opLst, opAdd, opII, cDivB, opMul, opOrd, opEq, kD_nn, kD_ii, kD_bb, kD_ss, kD_ni, kD_nb, kD_ns, kD_in, kD_bn, kD_sn, kD_is, kD_si, kD_bs, kD_sb, kD_tuple1, kD_tuple2, kD_list1, kD_list2, kD_ib, kD_bi, opIsN, opIx, opSl, one, fLen, fInt, fAbs, fTup, fList, see, hold, toD, adopt, Rs.bind, Rs.thenS, opStore, expo, itmOf, wipeR, mAppend, mExtend, List.getElem?_cons_zero, List.getElem?_cons_succ, List.map_cons, List.map_nil, List.length_cons, List.length_nil, List.cons_append, List.nil_append, List.replicate_succ, List.replicate_zero, List.set_cons_zero, List.set_cons_succ, Nat.zero_add, Nat.reduceAdd, Nat.reduceSub, ↓reduceIte, reduceCtorEq, String.reduceBEq, kb_NoneType_int, kb_NoneType_bool, kb_NoneType_str, kb_NoneType_tuple, kb_NoneType_list, kb_NoneType_dict, kb_bool_int, kb_bool_bool, kb_bool_str, kb_bool_tuple, kb_bool_list, kb_bool_dict, kb_int_int, kb_int_bool, kb_int_str, kb_int_tuple, kb_int_list, kb_int_dict, kb_str_int, kb_str_bool, kb_str_str, kb_str_tuple, kb_str_list, kb_str_dict, kb_list_int, kb_list_bool, kb_list_str, kb_list_tuple, kb_list_list, kb_list_dict, kb_tuple_int, kb_tuple_bool, kb_tuple_str, kb_tuple_tuple, kb_tuple_list, kb_tuple_dict, kb_dict_int, kb_dict_bool, kb_dict_str, kb_dict_tuple, kb_dict_list, kb_dict_dict, String.reduceEq, Int.reduceLT, Int.reduceLE, Int.reduceNeg, Int.reducePow, Nat.reducePow, Int.reduceToNat, Nat.reduceLT, Nat.reduceLeDiff, decide_true, decide_false, and_self, and_true, true_and, or_true, true_or, or_false, false_or, Bool.not_true, Bool.not_false, Bool.true_eq_false, Bool.false_eq_true, Option.map_some, Option.map_none, List.mapM_cons, List.mapM_nil, Option.bind_eq_bind, Option.bind_some, Option.pure_def, if_pos h2, opIn, k1, k2, k3, Function.comp]
  have ha : ((signsD t).map fun _ => true).all id = true := by simp
  simp only [F_is_beats, C_is_beats, cV_, cK_, cBin_, cCall_, cCons_, cNil_, cH_, cD_, cA_, cT_, cIf_, cAndT_, cOrT_, cNotT_, cAndV_, cOrV_, cNotV_, cChain_, cSl_, cPart_, cNoPart_, cMt_, cIsi_, cNeg_, cFn_, sNil_, sCons_, sIf_, sSet_, sPar_, sExpr_, sRet_, sRetN_, sRaise_, sBrk_, sCnt_, sStore_, fnOf_, iAny_, iR1_, iR2_, iEn_, gN_, gT_, gsN_, gsC_, stepS_, cYes_, lcF_, bT, iP, isTy, tyName, opTup, opLst, opAdd, opII, cDivB, opMul, opOrd, opEq, kD_nn, kD_ii, kD_bb, kD_ss, kD_ni, kD_nb, kD_ns, kD_in, kD_bn, kD_sn, kD_is, kD_si, kD_bs, kD_sb, kD_tuple1, kD_tuple2, kD_list1, kD_list2, kD_ib, kD_bi, opIsN, opIx, opSl, one, fLen, fInt, fAbs, fTup, fList, see, hold, toD, adopt, Rs.bind, Rs.thenS, opStore, expo, itmOf, wipeR, mAppend, mExtend, List.getElem?_cons_zero, List.getElem?_cons_succ, List.map_cons, List.map_nil, List.length_cons, List.length_nil, List.cons_append, List.nil_append, List.replicate_succ, List.replicate_zero, List.set_cons_zero, List.set_cons_succ, Nat.zero_add, Nat.reduceAdd, Nat.reduceSub, ↓reduceIte, reduceCtorEq, String.reduceBEq, kb_NoneType_int, kb_NoneType_bool, kb_NoneType_str, kb_NoneType_tuple, kb_NoneType_list, kb_NoneType_dict, kb_bool_int, kb_bool_bool, kb_bool_str, kb_bool_tuple, kb_bool_list, kb_bool_dict, kb_int_int, kb_int_bool, kb_int_str, kb_int_tuple, kb_int_list, kb_int_dict, kb_str_int, kb_str_bool, kb_str_str, kb_str_tuple, kb_str_list, kb_str_dict, kb_list_int, kb_list_bool, kb_list_str, kb_list_tuple, kb_list_list, kb_list_dict, kb_tuple_int, kb_tuple_bool, kb_tuple_str, kb_tuple_tuple, kb_tuple_list, kb_tuple_dict, kb_dict_int, kb_dict_bool, kb_dict_str, kb_dict_tuple, kb_dict_list, kb_dict_dict, String.reduceEq, Int.reduceLT, Int.reduceLE, Int.reduceNeg, Int.reducePow, Nat.reducePow, Int.reduceToNat, Nat.reduceLT, Nat.reduceLeDiff, decide_true, decide_false, and_self, and_true, true_and, or_true, true_or, or_false, false_or, Bool.not_true, Bool.not_false, Bool.true_eq_false, Bool.false_eq_true, Option.map_some, Option.map_none, if_pos hl2, hl3, hL, fBools, boolsOf_map, ha, List.take_length]
theorem int_half {n : Nat} : ((n : Nat) : Int) / 2 = ((n / 2 : Nat) : Int) := by omega
def halfD : D → D
  | .str p => .int ((p.length / 2 : Nat) : Int)
  | d => d
def incD : D → D
  | .int i => .int (i + 1)
  | d => d
theorem spl_len (S : List Nat) : ∀ (l : List Nat) (k : Nat) (acc : List Nat), (TL.spl S k acc l).length ≤ l.length + 1 ∧ ∀ p ∈ TL.spl S k acc l, p.length ≤ acc.length + l.length
  | [], k, acc => by rw [TL.spl_nil]; simp
  | c :: r, 0, acc => by
    by_cases h : TL.pre S (c :: r) = true
    · rw [TL.spl_hit h]
      obtain ⟨h1, h2⟩ := spl_len S r (S.length - 1) []
      refine ⟨by simp; omega, fun p hp => ?_⟩
      rcases List.mem_cons.mp hp with rfl | hp
      · omega
      · have := h2 p hp; simp at this ⊢; omega
    · rw [TL.spl_miss (Bool.eq_false_iff.mpr h)]
      obtain ⟨h1, h2⟩ := spl_len S r 0 (acc ++ [c])
      refine ⟨by simp; omega, fun p hp => ?_⟩
      have := h2 p hp; simp at this ⊢; omega
  | c :: r, k + 1, acc => by
    obtain ⟨h1, h2⟩ := spl_len S r k acc
    show (TL.spl S k acc r).length ≤ _ ∧ ∀ p ∈ TL.spl S k acc r, _
    refine ⟨by simp; omega, fun p hp => ?_⟩
    have := h2 p hp; simp; omega
theorem parts_len (t : Str) : (partsS t).length ≤ t.length + 3 ∧ ∀ p ∈ partsS t, p.length ≤ t.length + 2 := by
  have e := split_tl t
  obtain ⟨h1, h2⟩ := spl_len S4 (tl t ++ [48, 48]) 0 []
  rw [← e] at h1 h2
  rw [TL.len_tl]
  refine ⟨by simp at h1; omega, fun p hp => ?_⟩
  have := h2 (tl p) (List.mem_map_of_mem hp)
  rw [TL.len_tl]
  simp at this
  omega
theorem code_ok {t : Str} (hb : bits t) (hl : t.length ≤ 400) (μ : Mem) : F_code_by_beats [.d (.str t)] μ = .ok (.d (readD t)) μ := by
  have hb1 := is_beats_ok hb hl
  have l00 : ("00" : Str).length = 2 := by decide
  have hs1 : t.length + ("00" : Str).length ≤ sizeLine := nat_sizeLine (by omega)
  have hs2 : ("10" : Str).length + ("00" : Str).length ≤ sizeLine := by decide
  have e10 : ("10" : Str) ++ ("00" : Str) = ("1000" : Str) := by decide
  have hs3 : (("1000" : Str).length == 0) = false ∧ (t ++ ("00" : Str)).length + 2 ≤ sizeLine := ⟨by decide, nat_sizeLine (by rw [len_app]; omega)⟩
  obtain ⟨pl1, pl2⟩ := parts_len t
  have hL1 : cLc (iAny (cH (cMt "str" mSplit (cH (cBin opAdd (cV 0) (cK (.str "00")))) (cCons (cH (cBin opAdd (cK (.str "10")) (cK (.str "00")))) cNil)))) [3] (gN 3) cYes (cBin opDiv (cH (cCall (one fLen) (cCons (cV 3) cNil))) (cK (.int 2))) [some (.d (.str t)), none, none, none] μ = .ok (.fl (((partsS t).map PyData.str).map halfD)) μ := by
    refine cLc_map1 _ (itm_list _) ?_ (nat_sizeLine (by rw [List.length_map]; omega)) ?_
    · simp only [cV_, cK_, cBin_, cCall_, cCons_, cNil_, cH_, cD_, cA_, cT_, cIf_, cAndT_, cOrT_, cNotT_, cAndV_, cOrV_, cNotV_, cChain_, cSl_, cPart_, cNoPart_, cMt_, cIsi_, cNeg_, cFn_, sNil_, sCons_, sIf_, sSet_, sPar_, sExpr_, sRet_, sRetN_, sRaise_, sBrk_, sCnt_, sStore_, fnOf_, iAny_, iR1_, iR2_, iEn_, gN_, gT_, gsN_, gsC_, stepS_, cYes_, lcF_, bT, iP, isTy, tyName, opTup, opLst, opAdd, opII, cDivB, opMul, opOrd, opEq, kD_nn, kD_ii, kD_bb, kD_ss, kD_ni, kD_nb, kD_ns, kD_in, kD_bn, kD_sn, kD_is, kD_si, kD_bs, kD_sb, kD_tuple1, kD_tuple2, kD_list1, kD_list2, kD_ib, kD_bi, opIsN, opIx, opSl, one, fLen, fInt, fAbs, fTup, fList, see, hold, toD, adopt, Rs.bind, Rs.thenS, opStore, expo, itmOf, wipeR, mAppend, mExtend, List.getElem?_cons_zero, List.getElem?_cons_succ, List.map_cons, List.map_nil, List.length_cons, List.length_nil, List.cons_append, List.nil_append, List.replicate_succ, List.replicate_zero, List.set_cons_zero, List.set_cons_succ, Nat.zero_add, Nat.reduceAdd, Nat.reduceSub, ↓reduceIte, reduceCtorEq, String.reduceBEq, kb_NoneType_int, kb_NoneType_bool, kb_NoneType_str, kb_NoneType_tuple, kb_NoneType_list, kb_NoneType_dict, kb_bool_int, kb_bool_bool, kb_bool_str, kb_bool_tuple, kb_bool_list, kb_bool_dict, kb_int_int, kb_int_bool, kb_int_str, kb_int_tuple, kb_int_list, kb_int_dict, kb_str_int, kb_str_bool, kb_str_str, kb_str_tuple, kb_str_list, kb_str_dict, kb_list_int, kb_list_bool, kb_list_str, kb_list_tuple, kb_list_list, kb_list_dict, kb_tuple_int, kb_tuple_bool, kb_tuple_str, kb_tuple_tuple, kb_tuple_list, kb_tuple_dict, kb_dict_int, kb_dict_bool, kb_dict_str, kb_dict_tuple, kb_dict_list, kb_dict_dict, String.reduceEq, Int.reduceLT, Int.reduceLE, Int.reduceNeg, Int.reducePow, Nat.reducePow, Int.reduceToNat, Nat.reduceLT, Nat.reduceLeDiff, decide_true, decide_false, and_self, and_true, true_and, or_true, true_or, or_false, false_or, Bool.not_true, Bool.not_false, Bool.true_eq_false, Bool.false_eq_true, Option.map_some, Option.map_none, if_pos hs1, if_pos hs2, mSplit, e10, if_pos hs3]
      rfl
    · intro d hd μ' _
      obtain ⟨p, hp, rfl⟩ := List.mem_map.mp hd
      have := pl2 p hp
      have hpl : p.length ≤ sizeLine := nat_sizeLine (by omega)
      simp only [cV_, cK_, cBin_, cCall_, cCons_, cNil_, cH_, cD_, cA_, cT_, cIf_, cAndT_, cOrT_, cNotT_, cAndV_, cOrV_, cNotV_, cChain_, cSl_, cPart_, cNoPart_, cMt_, cIsi_, cNeg_, cFn_, sNil_, sCons_, sIf_, sSet_, sPar_, sExpr_, sRet_, sRetN_, sRaise_, sBrk_, sCnt_, sStore_, fnOf_, iAny_, iR1_, iR2_, iEn_, gN_, gT_, gsN_, gsC_, stepS_, cYes_, lcF_, bT, iP, isTy, tyName, opTup, opLst, opAdd, opII, cDivB, opMul, opOrd, opEq, kD_nn, kD_ii, kD_bb, kD_ss, kD_ni, kD_nb, kD_ns, kD_in, kD_bn, kD_sn, kD_is, kD_si, kD_bs, kD_sb, kD_tuple1, kD_tuple2, kD_list1, kD_list2, kD_ib, kD_bi, opIsN, opIx, opSl, one, fLen, fInt, fAbs, fTup, fList, see, hold, toD, adopt, Rs.bind, Rs.thenS, opStore, expo, itmOf, wipeR, mAppend, mExtend, List.getElem?_cons_zero, List.getElem?_cons_succ, List.map_cons, List.map_nil, List.length_cons, List.length_nil, List.cons_append, List.nil_append, List.replicate_succ, List.replicate_zero, List.set_cons_zero, List.set_cons_succ, Nat.zero_add, Nat.reduceAdd, Nat.reduceSub, ↓reduceIte, reduceCtorEq, String.reduceBEq, kb_NoneType_int, kb_NoneType_bool, kb_NoneType_str, kb_NoneType_tuple, kb_NoneType_list, kb_NoneType_dict, kb_bool_int, kb_bool_bool, kb_bool_str, kb_bool_tuple, kb_bool_list, kb_bool_dict, kb_int_int, kb_int_bool, kb_int_str, kb_int_tuple, kb_int_list, kb_int_dict, kb_str_int, kb_str_bool, kb_str_str, kb_str_tuple, kb_str_list, kb_str_dict, kb_list_int, kb_list_bool, kb_list_str, kb_list_tuple, kb_list_list, kb_list_dict, kb_tuple_int, kb_tuple_bool, kb_tuple_str, kb_tuple_tuple, kb_tuple_list, kb_tuple_dict, kb_dict_int, kb_dict_bool, kb_dict_str, kb_dict_tuple, kb_dict_list, kb_dict_dict, String.reduceEq, Int.reduceLT, Int.reduceLE, Int.reduceNeg, Int.reducePow, Nat.reducePow, Int.reduceToNat, Nat.reduceLT, Nat.reduceLeDiff, decide_true, decide_false, and_self, and_true, true_and, or_true, true_or, or_false, false_or, Bool.not_true, Bool.not_false, Bool.true_eq_false, Bool.false_eq_true, Option.map_some, Option.map_none, if_pos hpl, int_half, halfD]
  rw [List.map_map] at hL1
  have hL2 : cLc (iAny (cV 1)) [3] (gN 3) cYes (cBin opAdd (cV 3) (cK (.int 1))) [some (.d (.str t)), some (.d (.list ((partsS t).map (halfD ∘ PyData.str)).dropLast)), none, none] μ = .ok (.fl ((((partsS t).map (halfD ∘ PyData.str)).dropLast).map incD)) μ := by
    refine cLc_map1 _ (itm_list _) ?_ (nat_sizeLine (by simp; omega)) ?_
    · simp only [cV_, cK_, cBin_, cCall_, cCons_, cNil_, cH_, cD_, cA_, cT_, cIf_, cAndT_, cOrT_, cNotT_, cAndV_, cOrV_, cNotV_, cChain_, cSl_, cPart_, cNoPart_, cMt_, cIsi_, cNeg_, cFn_, sNil_, sCons_, sIf_, sSet_, sPar_, sExpr_, sRet_, sRetN_, sRaise_, sBrk_, sCnt_, sStore_, fnOf_, iAny_, iR1_, iR2_, iEn_, gN_, gT_, gsN_, gsC_, stepS_, cYes_, lcF_, bT, iP, isTy, tyName, opTup, opLst, opAdd, opII, cDivB, opMul, opOrd, opEq, kD_nn, kD_ii, kD_bb, kD_ss, kD_ni, kD_nb, kD_ns, kD_in, kD_bn, kD_sn, kD_is, kD_si, kD_bs, kD_sb, kD_tuple1, kD_tuple2, kD_list1, kD_list2, kD_ib, kD_bi, opIsN, opIx, opSl, one, fLen, fInt, fAbs, fTup, fList, see, hold, toD, adopt, Rs.bind, Rs.thenS, opStore, expo, itmOf, wipeR, mAppend, mExtend, List.getElem?_cons_zero, List.getElem?_cons_succ, List.map_cons, List.map_nil, List.length_cons, List.length_nil, List.cons_append, List.nil_append, List.replicate_succ, List.replicate_zero, List.set_cons_zero, List.set_cons_succ, Nat.zero_add, Nat.reduceAdd, Nat.reduceSub, ↓reduceIte, reduceCtorEq, String.reduceBEq, kb_NoneType_int, kb_NoneType_bool, kb_NoneType_str, kb_NoneType_tuple, kb_NoneType_list, kb_NoneType_dict, kb_bool_int, kb_bool_bool, kb_bool_str, kb_bool_tuple, kb_bool_list, kb_bool_dict, kb_int_int, kb_int_bool, kb_int_str, kb_int_tuple, kb_int_list, kb_int_dict, kb_str_int, kb_str_bool, kb_str_str, kb_str_tuple, kb_str_list, kb_str_dict, kb_list_int, kb_list_bool, kb_list_str, kb_list_tuple, kb_list_list, kb_list_dict, kb_tuple_int, kb_tuple_bool, kb_tuple_str, kb_tuple_tuple, kb_tuple_list, kb_tuple_dict, kb_dict_int, kb_dict_bool, kb_dict_str, kb_dict_tuple, kb_dict_list, kb_dict_dict, String.reduceEq, Int.reduceLT, Int.reduceLE, Int.reduceNeg, Int.reducePow, Nat.reducePow, Int.reduceToNat, Nat.reduceLT, Nat.reduceLeDiff, decide_true, decide_false, and_self, and_true, true_and, or_true, true_or, or_false, false_or, Bool.not_true, Bool.not_false, Bool.true_eq_false, Bool.false_eq_true, Option.map_some, Option.map_none]
    · intro d hd μ' _
      obtain ⟨p, hp, rfl⟩ := List.mem_map.mp (List.dropLast_subset _ hd)
      simp only [cV_, cK_, cBin_, cCall_, cCons_, cNil_, cH_, cD_, cA_, cT_, cIf_, cAndT_, cOrT_, cNotT_, cAndV_, cOrV_, cNotV_, cChain_, cSl_, cPart_, cNoPart_, cMt_, cIsi_, cNeg_, cFn_, sNil_, sCons_, sIf_, sSet_, sPar_, sExpr_, sRet_, sRetN_, sRaise_, sBrk_, sCnt_, sStore_, fnOf_, iAny_, iR1_, iR2_, iEn_, gN_, gT_, gsN_, gsC_, stepS_, cYes_, lcF_, bT, iP, isTy, tyName, opTup, opLst, opAdd, opII, cDivB, opMul, opOrd, opEq, kD_nn, kD_ii, kD_bb, kD_ss, kD_ni, kD_nb, kD_ns, kD_in, kD_bn, kD_sn, kD_is, kD_si, kD_bs, kD_sb, kD_tuple1, kD_tuple2, kD_list1, kD_list2, kD_ib, kD_bi, opIsN, opIx, opSl, one, fLen, fInt, fAbs, fTup, fList, see, hold, toD, adopt, Rs.bind, Rs.thenS, opStore, expo, itmOf, wipeR, mAppend, mExtend, List.getElem?_cons_zero, List.getElem?_cons_succ, List.map_cons, List.map_nil, List.length_cons, List.length_nil, List.cons_append, List.nil_append, List.replicate_succ, List.replicate_zero, List.set_cons_zero, List.set_cons_succ, Nat.zero_add, Nat.reduceAdd, Nat.reduceSub, ↓reduceIte, reduceCtorEq, String.reduceBEq, kb_NoneType_int, kb_NoneType_bool, kb_NoneType_str, kb_NoneType_tuple, kb_NoneType_list, kb_NoneType_dict, kb_bool_int, kb_bool_bool, kb_bool_str, kb_bool_tuple, kb_bool_list, kb_bool_dict, kb_int_int, kb_int_bool, kb_int_str, kb_int_tuple, kb_int_list, kb_int_dict, kb_str_int, kb_str_bool, kb_str_str, kb_str_tuple, kb_str_list, kb_str_dict, kb_list_int, kb_list_bool, kb_list_str, kb_list_tuple, kb_list_list, kb_list_dict, kb_tuple_int, kb_tuple_bool, kb_tuple_str, kb_tuple_tuple, kb_tuple_list, kb_tuple_dict, kb_dict_int, kb_dict_bool, kb_dict_str, kb_dict_tuple, kb_dict_list, kb_dict_dict, String.reduceEq, Int.reduceLT, Int.reduceLE, Int.reduceNeg, Int.reducePow, Nat.reducePow, Int.reduceToNat, Nat.reduceLT, Nat.reduceLeDiff, decide_true, decide_false, and_self, and_true, true_and, or_true, true_or, or_false, false_or, Bool.not_true, Bool.not_false, Bool.true_eq_false, Bool.false_eq_true, Option.map_some, Option.map_none, Function.comp, halfD, incD]
  have e3 : ((((partsS t).map (halfD ∘ PyData.str)).dropLast).map incD) = (csOf t).map fun (c : Nat) => PyData.int (c : Int) := by
    unfold csOf
    rw [← List.map_dropLast, List.map_map, List.map_map]
    refine List.map_congr_left fun p _ => ?_
    show PyData.int (((p.length / 2 : Nat) : Int) + 1) = PyData.int ((p.length / 2 + 1 : Nat) : Int)
    congr 1
  rw [e3] at hL2
  have hcl : (csOf t).length ≤ 403 := by unfold csOf; simp; omega
  have hcs : ((csOf t).map fun (c : Nat) => PyData.int (c : Int)).length ≤ sizeLine := nat_sizeLine (by simp; omega)
  have hcode := is_code_ok (codeD (csOf t)) rfl (fun xs e => by
    cases e
    exact ⟨by simp; omega, fun y hy => by obtain ⟨c, _, rfl⟩ := List.mem_map.mp hy; rfl⟩)
  rw [codeB_codeD] at hcode
  unfold codeD at hcode
  by_cases hc : isCode (csOf t) = true
  · have hbe := fun μ => (beats_ok (cs := csOf t) (by unfold isCode at hc; simp at hc; omega) (fun c h => by unfold isCode at hc; simp at hc; have := hc.2 c h; omega) μ).1
    unfold codeD at hbe
    by_cases he : bS (csOf t) = t
    · have he' : (bS (csOf t) == t) = true := by rw [he]; exact beq_self_eq_true t
      have hr : readD t = .tuple ((csOf t).map fun (c : Nat) => PyData.int (c : Int)) := by unfold readD; rw [if_pos ⟨hc, he⟩]; rfl
      rw [hr]
      simp only [F_code_by_beats, C_code_by_beats, cV_, cK_, cBin_, cCall_, cCons_, cNil_, cH_, cD_, cA_, cT_, cIf_, cAndT_, cOrT_, cNotT_, cAndV_, cOrV_, cNotV_, cChain_, cSl_, cPart_, cNoPart_, cMt_, cIsi_, cNeg_, cFn_, sNil_, sCons_, sIf_, sSet_, sPar_, sExpr_, sRet_, sRetN_, sRaise_, sBrk_, sCnt_, sStore_, fnOf_, iAny_, iR1_, iR2_, iEn_, gN_, gT_, gsN_, gsC_, stepS_, cYes_, lcF_, bT, iP, isTy, tyName, opTup, opLst, opAdd, opII, cDivB, opMul, opOrd, opEq, kD_nn, kD_ii, kD_bb, kD_ss, kD_ni, kD_nb, kD_ns, kD_in, kD_bn, kD_sn, kD_is, kD_si, kD_bs, kD_sb, kD_tuple1, kD_tuple2, kD_list1, kD_list2, kD_ib, kD_bi, opIsN, opIx, opSl, one, fLen, fInt, fAbs, fTup, fList, see, hold, toD, adopt, Rs.bind, Rs.thenS, opStore, expo, itmOf, wipeR, mAppend, mExtend, List.getElem?_cons_zero, List.getElem?_cons_succ, List.map_cons, List.map_nil, List.length_cons, List.length_nil, List.cons_append, List.nil_append, List.replicate_succ, List.replicate_zero, List.set_cons_zero, List.set_cons_succ, Nat.zero_add, Nat.reduceAdd, Nat.reduceSub, ↓reduceIte, reduceCtorEq, String.reduceBEq, kb_NoneType_int, kb_NoneType_bool, kb_NoneType_str, kb_NoneType_tuple, kb_NoneType_list, kb_NoneType_dict, kb_bool_int, kb_bool_bool, kb_bool_str, kb_bool_tuple, kb_bool_list, kb_bool_dict, kb_int_int, kb_int_bool, kb_int_str, kb_int_tuple, kb_int_list, kb_int_dict, kb_str_int, kb_str_bool, kb_str_str, kb_str_tuple, kb_str_list, kb_str_dict, kb_list_int, kb_list_bool, kb_list_str, kb_list_tuple, kb_list_list, kb_list_dict, kb_tuple_int, kb_tuple_bool, kb_tuple_str, kb_tuple_tuple, kb_tuple_list, kb_tuple_dict, kb_dict_int, kb_dict_bool, kb_dict_str, kb_dict_tuple, kb_dict_list, kb_dict_dict, String.reduceEq, Int.reduceLT, Int.reduceLE, Int.reduceNeg, Int.reducePow, Nat.reducePow, Int.reduceToNat, Nat.reduceLT, Nat.reduceLeDiff, decide_true, decide_false, and_self, and_true, true_and, or_true, true_or, or_false, false_or, Bool.not_true, Bool.not_false, Bool.true_eq_false, Bool.false_eq_true, Option.map_some, Option.map_none, hb1, hL1, cutD_init, hL2, if_pos hcs, hcode, hc, hbe, PyData.eqv, he', take_all]
    · have he' : (bS (csOf t) == t) = false := by simpa using he
      have hr : readD t = .none := by unfold readD; rw [if_neg (fun z => he z.2)]
      rw [hr]
      simp only [F_code_by_beats, C_code_by_beats, cV_, cK_, cBin_, cCall_, cCons_, cNil_, cH_, cD_, cA_, cT_, cIf_, cAndT_, cOrT_, cNotT_, cAndV_, cOrV_, cNotV_, cChain_, cSl_, cPart_, cNoPart_, cMt_, cIsi_, cNeg_, cFn_, sNil_, sCons_, sIf_, sSet_, sPar_, sExpr_, sRet_, sRetN_, sRaise_, sBrk_, sCnt_, sStore_, fnOf_, iAny_, iR1_, iR2_, iEn_, gN_, gT_, gsN_, gsC_, stepS_, cYes_, lcF_, bT, iP, isTy, tyName, opTup, opLst, opAdd, opII, cDivB, opMul, opOrd, opEq, kD_nn, kD_ii, kD_bb, kD_ss, kD_ni, kD_nb, kD_ns, kD_in, kD_bn, kD_sn, kD_is, kD_si, kD_bs, kD_sb, kD_tuple1, kD_tuple2, kD_list1, kD_list2, kD_ib, kD_bi, opIsN, opIx, opSl, one, fLen, fInt, fAbs, fTup, fList, see, hold, toD, adopt, Rs.bind, Rs.thenS, opStore, expo, itmOf, wipeR, mAppend, mExtend, List.getElem?_cons_zero, List.getElem?_cons_succ, List.map_cons, List.map_nil, List.length_cons, List.length_nil, List.cons_append, List.nil_append, List.replicate_succ, List.replicate_zero, List.set_cons_zero, List.set_cons_succ, Nat.zero_add, Nat.reduceAdd, Nat.reduceSub, ↓reduceIte, reduceCtorEq, String.reduceBEq, kb_NoneType_int, kb_NoneType_bool, kb_NoneType_str, kb_NoneType_tuple, kb_NoneType_list, kb_NoneType_dict, kb_bool_int, kb_bool_bool, kb_bool_str, kb_bool_tuple, kb_bool_list, kb_bool_dict, kb_int_int, kb_int_bool, kb_int_str, kb_int_tuple, kb_int_list, kb_int_dict, kb_str_int, kb_str_bool, kb_str_str, kb_str_tuple, kb_str_list, kb_str_dict, kb_list_int, kb_list_bool, kb_list_str, kb_list_tuple, kb_list_list, kb_list_dict, kb_tuple_int, kb_tuple_bool, kb_tuple_str, kb_tuple_tuple, kb_tuple_list, kb_tuple_dict, kb_dict_int, kb_dict_bool, kb_dict_str, kb_dict_tuple, kb_dict_list, kb_dict_dict, String.reduceEq, Int.reduceLT, Int.reduceLE, Int.reduceNeg, Int.reducePow, Nat.reducePow, Int.reduceToNat, Nat.reduceLT, Nat.reduceLeDiff, decide_true, decide_false, and_self, and_true, true_and, or_true, true_or, or_false, false_or, Bool.not_true, Bool.not_false, Bool.true_eq_false, Bool.false_eq_true, Option.map_some, Option.map_none, hb1, hL1, cutD_init, hL2, if_pos hcs, hcode, hc, hbe, PyData.eqv, he', take_all]
  · have hc' := Bool.eq_false_iff.mpr hc
    have hr : readD t = .none := by unfold readD; rw [if_neg (fun z => hc z.1)]
    rw [hr]
    simp only [F_code_by_beats, C_code_by_beats, cV_, cK_, cBin_, cCall_, cCons_, cNil_, cH_, cD_, cA_, cT_, cIf_, cAndT_, cOrT_, cNotT_, cAndV_, cOrV_, cNotV_, cChain_, cSl_, cPart_, cNoPart_, cMt_, cIsi_, cNeg_, cFn_, sNil_, sCons_, sIf_, sSet_, sPar_, sExpr_, sRet_, sRetN_, sRaise_, sBrk_, sCnt_, sStore_, fnOf_, iAny_, iR1_, iR2_, iEn_, gN_, gT_, gsN_, gsC_, stepS_, cYes_, lcF_, bT, iP, isTy, tyName, opTup, opLst, opAdd, opII, cDivB, opMul, opOrd, opEq, kD_nn, kD_ii, kD_bb, kD_ss, kD_ni, kD_nb, kD_ns, kD_in, kD_bn, kD_sn, kD_is, kD_si, kD_bs, kD_sb, kD_tuple1, kD_tuple2, kD_list1, kD_list2, kD_ib, kD_bi, opIsN, opIx, opSl, one, fLen, fInt, fAbs, fTup, fList, see, hold, toD, adopt, Rs.bind, Rs.thenS, opStore, expo, itmOf, wipeR, mAppend, mExtend, List.getElem?_cons_zero, List.getElem?_cons_succ, List.map_cons, List.map_nil, List.length_cons, List.length_nil, List.cons_append, List.nil_append, List.replicate_succ, List.replicate_zero, List.set_cons_zero, List.set_cons_succ, Nat.zero_add, Nat.reduceAdd, Nat.reduceSub, ↓reduceIte, reduceCtorEq, String.reduceBEq, kb_NoneType_int, kb_NoneType_bool, kb_NoneType_str, kb_NoneType_tuple, kb_NoneType_list, kb_NoneType_dict, kb_bool_int, kb_bool_bool, kb_bool_str, kb_bool_tuple, kb_bool_list, kb_bool_dict, kb_int_int, kb_int_bool, kb_int_str, kb_int_tuple, kb_int_list, kb_int_dict, kb_str_int, kb_str_bool, kb_str_str, kb_str_tuple, kb_str_list, kb_str_dict, kb_list_int, kb_list_bool, kb_list_str, kb_list_tuple, kb_list_list, kb_list_dict, kb_tuple_int, kb_tuple_bool, kb_tuple_str, kb_tuple_tuple, kb_tuple_list, kb_tuple_dict, kb_dict_int, kb_dict_bool, kb_dict_str, kb_dict_tuple, kb_dict_list, kb_dict_dict, String.reduceEq, Int.reduceLT, Int.reduceLE, Int.reduceNeg, Int.reducePow, Nat.reducePow, Int.reduceToNat, Nat.reduceLT, Nat.reduceLeDiff, decide_true, decide_false, and_self, and_true, true_and, or_true, true_or, or_false, false_or, Bool.not_true, Bool.not_false, Bool.true_eq_false, Bool.false_eq_true, Option.map_some, Option.map_none, hb1, hL1, cutD_init, hL2, if_pos hcs, hcode, hc', take_all]
end L52
set_option maxRecDepth 100000
set_option maxHeartbeats 1000000
namespace L52
open PySem PySem.Spec PyProof.Rows L2 Em
open TL (tl)
def goodP (p : Str) : Prop := p = strRep "10" ((p.length / 2 : Nat) : Int)
theorem parts_of_read {t : Str} (h : isCode (csOf t) = true) (h2 : bS (csOf t) = t) : (∀ p ∈ (partsS t).dropLast, goodP p) ∧ (partsS t).getLast? = some Str.empty := by
  have h' := h
  unfold isCode at h'
  simp only [Bool.and_eq_true, decide_eq_true_eq, List.all_eq_true] at h'
  have e := parts_bS (cs := csOf t) (by intro z; rw [z] at h'; simp at h') (fun c hc => (h'.2 c hc).1)
  rw [h2] at e
  rw [e]
  refine ⟨fun p hp => ?_, by simp⟩
  rw [List.dropLast_concat] at hp
  obtain ⟨c, _, rfl⟩ := List.mem_map.mp hp
  unfold goodP
  rw [strRep_len]
  congr 2
  omega
theorem spl_ne (S : List Nat) : ∀ (l : List Nat) (k : Nat) (acc : List Nat), TL.spl S k acc l ≠ []
  | [], k, acc => by rw [TL.spl_nil]; simp
  | c :: r, 0, acc => by
    by_cases h : TL.pre S (c :: r) = true
    · rw [TL.spl_hit h]; simp
    · rw [TL.spl_miss (Bool.eq_false_iff.mpr h)]; exact spl_ne S r 0 _
  | c :: r, k + 1, acc => spl_ne S r k acc
theorem parts_ne (t : Str) : partsS t ≠ [] := fun z => by
  have e := split_tl t
  rw [z] at e
  exact spl_ne _ _ _ _ e.symm
theorem foldl_max (ns : List Int) : ∀ n : Int, ns.foldl max n ≤ 9 ↔ n ≤ 9 ∧ ∀ x ∈ ns, x ≤ 9 := by
  induction ns with
  | nil => intro n; simp
  | cons m ns ih =>
    intro n
    rw [List.foldl_cons, ih]
    simp only [List.mem_cons, forall_eq_or_imp, Int.max_le, and_assoc]
/-- the loop of the second reading -/
def bodyR : SC := (sCons (sIf (cT (cBin (opEq true) (cV 3) (cH (cBin opMul (cK (.str "10")) (cH (cBin opDiv (cH (cCall (one fLen) (cCons (cV 3) cNil))) (cK (.int 2)))))))) (sRet (cK .none)) sNil) (sExpr (cMt "list" mAppend (cV 2) (cCons (cD (cBin opAdd (cH (cBin opDiv (cH (cCall (one fLen) (cCons (cV 3) cNil))) (cK (.int 2)))) (cK (.int 1)))) cNil))))
theorem bodyR_run {t : Str} {x1 : D} {z3 z4 : Option R} {n : Nat} {p : Str} {acc : List D} {μ : Mem} (hn : n = μ.length) (hp : p.length ≤ 402) (ha : acc.length ≤ 1000) :
    stepS (gN 3) bodyR (.str p) [some (.d (.str t)), some (.d x1), some (.c n), z3, z4] (μ ++ [.lst acc]) = (if p = strRep "10" ((p.length / 2 : Nat) : Int) then .nx [some (.d (.str t)), some (.d x1), some (.c n), some (.d (.str p)), z4] (μ ++ [.lst (acc ++ [incD (halfD (.str p))])]) else .rt (.d .none) (μ ++ [.lst acc])) := by
  subst hn
  have hpl : p.length ≤ sizeLine := nat_sizeLine (by omega)
  have c1 : (-1000000 : Int) ≤ ((p.length / 2 : Nat) : Int) ∧ ((p.length / 2 : Nat) : Int) ≤ 100000 ∧ ("10" : Str).length ≤ 100 := ⟨by omega, by omega, by decide⟩
  have hg : (μ ++ [Cell.lst acc])[μ.length]? = some (.lst acc) := by simp
  have hs : (μ ++ [Cell.lst acc]).set μ.length (.lst (acc ++ [incD (halfD (.str p))])) = μ ++ [.lst (acc ++ [incD (halfD (.str p))])] := by simp
  have hsz : acc.length < sizeLine := Nat.lt_of_lt_of_le (by omega : acc.length < 1001) (nat_sizeLine (by omega))
  have hi : incD (halfD (.str p)) = .int (((p.length / 2 : Nat) : Int) + 1) := rfl
  by_cases he : p = strRep "10" ((p.length / 2 : Nat) : Int)
  · have he' : (p == strRep "10" ((p.length / 2 : Nat) : Int)) = true := by simpa using he
    rw [if_pos he]
    rw [hi] at hs ⊢
    simp only [bodyR, cV_, cK_, cBin_, cCall_, cCons_, cNil_, cH_, cD_, cA_, cT_, cIf_, cAndT_, cOrT_, cNotT_, cAndV_, cOrV_, cNotV_, cChain_, cSl_, cPart_, cNoPart_, cMt_, cIsi_, cNeg_, cFn_, sNil_, sCons_, sIf_, sSet_, sPar_, sExpr_, sRet_, sRetN_, sRaise_, sBrk_, sCnt_, sStore_, fnOf_, iAny_, iR1_, iR2_, iEn_, gN_, gT_, gsN_, gsC_, stepS_, cYes_, lcF_, bT, iP, isTy, tyName, opTup, opLst, opAdd, opII, cDivB, opMul, opOrd, opEq, kD_nn, kD_ii, kD_bb, kD_ss, kD_ni, kD_nb, kD_ns, kD_in, kD_bn, kD_sn, kD_is, kD_si, kD_bs, kD_sb, kD_tuple1, kD_tuple2, kD_list1, kD_list2, kD_ib, kD_bi, opIsN, opIx, opSl, one, fLen, fInt, fAbs, fTup, fList, see, hold, toD, adopt, Rs.bind, Rs.thenS, opStore, expo, itmOf, wipeR, mAppend, mExtend, List.getElem?_cons_zero, List.getElem?_cons_succ, List.map_cons, List.map_nil, List.length_cons, List.length_nil, List.cons_append, List.nil_append, List.replicate_succ, List.replicate_zero, List.set_cons_zero, List.set_cons_succ, Nat.zero_add, Nat.reduceAdd, Nat.reduceSub, ↓reduceIte, reduceCtorEq, String.reduceBEq, kb_NoneType_int, kb_NoneType_bool, kb_NoneType_str, kb_NoneType_tuple, kb_NoneType_list, kb_NoneType_dict, kb_bool_int, kb_bool_bool, kb_bool_str, kb_bool_tuple, kb_bool_list, kb_bool_dict, kb_int_int, kb_int_bool, kb_int_str, kb_int_tuple, kb_int_list, kb_int_dict, kb_str_int, kb_str_bool, kb_str_str, kb_str_tuple, kb_str_list, kb_str_dict, kb_list_int, kb_list_bool, kb_list_str, kb_list_tuple, kb_list_list, kb_list_dict, kb_tuple_int, kb_tuple_bool, kb_tuple_str, kb_tuple_tuple, kb_tuple_list, kb_tuple_dict, kb_dict_int, kb_dict_bool, kb_dict_str, kb_dict_tuple, kb_dict_list, kb_dict_dict, String.reduceEq, Int.reduceLT, Int.reduceLE, Int.reduceNeg, Int.reducePow, Nat.reducePow, Int.reduceToNat, Nat.reduceLT, Nat.reduceLeDiff, decide_true, decide_false, and_self, and_true, true_and, or_true, true_or, or_false, false_or, Bool.not_true, Bool.not_false, Bool.true_eq_false, Bool.false_eq_true, Option.map_some, Option.map_none, if_pos hpl, int_half, if_pos c1, PyData.eqv, he', hg, if_pos hsz, hs]
  · have he' : (p == strRep "10" ((p.length / 2 : Nat) : Int)) = false := by simpa using he
    rw [if_neg he]
    simp only [bodyR, cV_, cK_, cBin_, cCall_, cCons_, cNil_, cH_, cD_, cA_, cT_, cIf_, cAndT_, cOrT_, cNotT_, cAndV_, cOrV_, cNotV_, cChain_, cSl_, cPart_, cNoPart_, cMt_, cIsi_, cNeg_, cFn_, sNil_, sCons_, sIf_, sSet_, sPar_, sExpr_, sRet_, sRetN_, sRaise_, sBrk_, sCnt_, sStore_, fnOf_, iAny_, iR1_, iR2_, iEn_, gN_, gT_, gsN_, gsC_, stepS_, cYes_, lcF_, bT, iP, isTy, tyName, opTup, opLst, opAdd, opII, cDivB, opMul, opOrd, opEq, kD_nn, kD_ii, kD_bb, kD_ss, kD_ni, kD_nb, kD_ns, kD_in, kD_bn, kD_sn, kD_is, kD_si, kD_bs, kD_sb, kD_tuple1, kD_tuple2, kD_list1, kD_list2, kD_ib, kD_bi, opIsN, opIx, opSl, one, fLen, fInt, fAbs, fTup, fList, see, hold, toD, adopt, Rs.bind, Rs.thenS, opStore, expo, itmOf, wipeR, mAppend, mExtend, List.getElem?_cons_zero, List.getElem?_cons_succ, List.map_cons, List.map_nil, List.length_cons, List.length_nil, List.cons_append, List.nil_append, List.replicate_succ, List.replicate_zero, List.set_cons_zero, List.set_cons_succ, Nat.zero_add, Nat.reduceAdd, Nat.reduceSub, ↓reduceIte, reduceCtorEq, String.reduceBEq, kb_NoneType_int, kb_NoneType_bool, kb_NoneType_str, kb_NoneType_tuple, kb_NoneType_list, kb_NoneType_dict, kb_bool_int, kb_bool_bool, kb_bool_str, kb_bool_tuple, kb_bool_list, kb_bool_dict, kb_int_int, kb_int_bool, kb_int_str, kb_int_tuple, kb_int_list, kb_int_dict, kb_str_int, kb_str_bool, kb_str_str, kb_str_tuple, kb_str_list, kb_str_dict, kb_list_int, kb_list_bool, kb_list_str, kb_list_tuple, kb_list_list, kb_list_dict, kb_tuple_int, kb_tuple_bool, kb_tuple_str, kb_tuple_tuple, kb_tuple_list, kb_tuple_dict, kb_dict_int, kb_dict_bool, kb_dict_str, kb_dict_tuple, kb_dict_list, kb_dict_dict, String.reduceEq, Int.reduceLT, Int.reduceLE, Int.reduceNeg, Int.reducePow, Nat.reducePow, Int.reduceToNat, Nat.reduceLT, Nat.reduceLeDiff, decide_true, decide_false, and_self, and_true, true_and, or_true, true_or, or_false, false_or, Bool.not_true, Bool.not_false, Bool.true_eq_false, Bool.false_eq_true, Option.map_some, Option.map_none, if_pos hpl, int_half, if_pos c1, PyData.eqv, he', hg]
def restR : SC := (sCons (sSet 4 (cH (cCall (one fTup) (cCons (cV 2) cNil))))
  (sRet (cIf (cAndT (cT (cBin (opEq false) (cH (cBin opIx (cV 1) (cH (cNeg (cK (.int 1)))))) (cK (.str "")))) (cAndT (cT (cChain opLe opLe (cK (.int 1)) (cH (cCall (one fLen) (cCons (cV 4) cNil))) (cK (.int 4)))) (cAndT (cT (cBin opLe (cH (cCall (one (fBest max)) (cCons (cV 4) cNil))) (cK (.int 9)))) (cT (cBin (opEq false) (cH (cFn 1 F__law_beats (cCons (cV 4) cNil))) (cV 0)))))) (cV 4) (cK .none))))
theorem read_body : C__law_read = (sCons (sSet 1 (cD (cLc (iAny (cH (cMt "str" mSplit (cH (cBin opAdd (cV 0) (cK (.str "00")))) (cCons (cK (.str "1000")) cNil)))) [3] (gN 3) cYes (cV 3))))
  (sCons (sSet 2 (cA (cCall opLst cNil))) (sCons (sFor (iAny (cH (cSl (cV 1) cNoPart (cPart (cNeg (cK (.int 1))))))) (gN 3) bodyR) restR))) := rfl
theorem restR_run {t : Str} (hl : t.length ≤ 400) {z3 : Option R} {μ : Mem} (hpass : ∀ p ∈ (partsS t).dropLast, goodP p) : restR [some (.d (.str t)), some (.d (.list ((partsS t).map .str))), some (.c μ.length), z3, none] (μ ++ [.lst ((csOf t).map fun (c : Nat) => PyData.int (c : Int))]) = .rt (.d (readD t)) (μ ++ [.lst ((csOf t).map fun (c : Nat) => PyData.int (c : Int))]) := by
  obtain ⟨pl1, pl2⟩ := parts_len t
  have hcl : (csOf t).length ≤ 403 := by unfold csOf; simp; omega
  have hcs : ((csOf t).map fun (c : Nat) => PyData.int (c : Int)).length ≤ sizeLine := nat_sizeLine (by simp; omega)
  obtain ⟨ini, last, hil⟩ : ∃ ini last, partsS t = ini ++ [last] := ⟨_, _, (List.dropLast_concat_getLast (parts_ne t)).symm⟩
  have hx : L2.atI ((partsS t).map PyData.str) (-1) = some (.str last) := by rw [hil, List.map_append]; exact atI_lastD
  have hg : (μ ++ [Cell.lst ((csOf t).map fun (c : Nat) => PyData.int (c : Int))])[μ.length]? = some (.lst ((csOf t).map fun (c : Nat) => PyData.int (c : Int))) := by simp
  have hlen : (((csOf t).map fun (c : Nat) => PyData.int (c : Int)).length : Nat) = (csOf t).length := List.length_map _
  by_cases hP : isCode (csOf t) = true ∧ bS (csOf t) = t
  · have hr : readD t = .tuple ((csOf t).map fun (c : Nat) => PyData.int (c : Int)) := by unfold readD; rw [if_pos hP]; rfl
    obtain ⟨_, hlast⟩ := parts_of_read hP.1 hP.2
    have h' := hP.1
    unfold isCode at h'
    simp only [Bool.and_eq_true, decide_eq_true_eq, List.all_eq_true] at h'
    have hl0 : last = Str.empty := by rw [hil] at hlast; simpa using hlast
    have c1 : (last == ("" : Str)) = true := by rw [hl0]; decide
    have c2 : decide ((1 : Int) ≤ (((csOf t).length : Nat) : Int)) = true := decide_eq_true (by omega)
    have c3 : decide ((((csOf t).length : Nat) : Int) ≤ 4) = true := decide_eq_true (by omega)
    obtain ⟨c, cs, hcc⟩ : ∃ c cs, csOf t = c :: cs := by
      cases hq : csOf t with
      | nil => rw [hq] at h'; simp at h'
      | cons c cs => exact ⟨c, cs, rfl⟩
    have hints : intsOf ((csOf t).map fun (c : Nat) => PyData.int (c : Int)) = some ((c : Int) :: cs.map fun (c : Nat) => (c : Int)) := by
      have := intsOf_map ((csOf t).map fun (c : Nat) => (c : Int))
      rw [List.map_map] at this
      rw [hcc] at this ⊢
      exact this
    have c4 : decide ((cs.map fun (c : Nat) => (c : Int)).foldl max (c : Int) ≤ 9) = true := decide_eq_true ((foldl_max _ _).mpr ⟨by have := h'.2 c (by rw [hcc]; simp); omega, fun x hx => by
      obtain ⟨y, hy, rfl⟩ := List.mem_map.mp hx
      have := h'.2 y (by rw [hcc]; simp [hy]); omega⟩)
    have hbe := fun μ => (beats_ok (cs := csOf t) (by omega) (fun c h => by have := h'.2 c h; omega) μ).2
    unfold codeD at hbe
    have c5 : (bS (csOf t) == t) = true := by rw [hP.2]; exact beq_self_eq_true t
    rw [hr]
    simp only [restR, cV_, cK_, cBin_, cCall_, cCons_, cNil_, cH_, cD_, cA_, cT_, cIf_, cAndT_, cOrT_, cNotT_, cAndV_, cOrV_, cNotV_, cChain_, cSl_, cPart_, cNoPart_, cMt_, cIsi_, cNeg_, cFn_, sNil_, sCons_, sIf_, sSet_, sPar_, sExpr_, sRet_, sRetN_, sRaise_, sBrk_, sCnt_, sStore_, fnOf_, iAny_, iR1_, iR2_, iEn_, gN_, gT_, gsN_, gsC_, stepS_, cYes_, lcF_, bT, iP, isTy, tyName, opTup, opLst, opAdd, opII, cDivB, opMul, opOrd, opEq, kD_nn, kD_ii, kD_bb, kD_ss, kD_ni, kD_nb, kD_ns, kD_in, kD_bn, kD_sn, kD_is, kD_si, kD_bs, kD_sb, kD_tuple1, kD_tuple2, kD_list1, kD_list2, kD_ib, kD_bi, opIsN, opIx, opSl, one, fLen, fInt, fAbs, fTup, fList, see, hold, toD, adopt, Rs.bind, Rs.thenS, opStore, expo, itmOf, wipeR, mAppend, mExtend, List.getElem?_cons_zero, List.getElem?_cons_succ, List.map_cons, List.map_nil, List.length_cons, List.length_nil, List.cons_append, List.nil_append, List.replicate_succ, List.replicate_zero, List.set_cons_zero, List.set_cons_succ, Nat.zero_add, Nat.reduceAdd, Nat.reduceSub, ↓reduceIte, reduceCtorEq, String.reduceBEq, kb_NoneType_int, kb_NoneType_bool, kb_NoneType_str, kb_NoneType_tuple, kb_NoneType_list, kb_NoneType_dict, kb_bool_int, kb_bool_bool, kb_bool_str, kb_bool_tuple, kb_bool_list, kb_bool_dict, kb_int_int, kb_int_bool, kb_int_str, kb_int_tuple, kb_int_list, kb_int_dict, kb_str_int, kb_str_bool, kb_str_str, kb_str_tuple, kb_str_list, kb_str_dict, kb_list_int, kb_list_bool, kb_list_str, kb_list_tuple, kb_list_list, kb_list_dict, kb_tuple_int, kb_tuple_bool, kb_tuple_str, kb_tuple_tuple, kb_tuple_list, kb_tuple_dict, kb_dict_int, kb_dict_bool, kb_dict_str, kb_dict_tuple, kb_dict_list, kb_dict_dict, String.reduceEq, Int.reduceLT, Int.reduceLE, Int.reduceNeg, Int.reducePow, Nat.reducePow, Int.reduceToNat, Nat.reduceLT, Nat.reduceLeDiff, decide_true, decide_false, and_self, and_true, true_and, or_true, true_or, or_false, false_or, Bool.not_true, Bool.not_false, Bool.true_eq_false, Bool.false_eq_true, Option.map_some, Option.map_none, fBest, hg, hx, PyData.eqv, c1, hlen, c2, c3, hints, c4, hbe, c5]
  · have hr : readD t = .none := by unfold readD; rw [if_neg hP]
    rw [hr]
    by_cases c1 : (last == ("" : Str)) = true
    · by_cases c2 : decide ((1 : Int) ≤ (((csOf t).length : Nat) : Int)) = true
      · by_cases c3 : decide ((((csOf t).length : Nat) : Int) ≤ 4) = true
        · have d2 := of_decide_eq_true c2
          have d3 := of_decide_eq_true c3
          obtain ⟨c, cs, hcc⟩ : ∃ c cs, csOf t = c :: cs := by
            cases hq : csOf t with
            | nil => rw [hq] at d2; simp at d2
            | cons c cs => exact ⟨c, cs, rfl⟩
          have hints : intsOf ((csOf t).map fun (c : Nat) => PyData.int (c : Int)) = some ((c : Int) :: cs.map fun (c : Nat) => (c : Int)) := by
            have := intsOf_map ((csOf t).map fun (c : Nat) => (c : Int))
            rw [List.map_map] at this
            rw [hcc] at this ⊢
            exact this
          by_cases c4 : decide ((cs.map fun (c : Nat) => (c : Int)).foldl max (c : Int) ≤ 9) = true
          · have d4 := (foldl_max _ _).mp (of_decide_eq_true c4)
            have hall : ∀ x ∈ csOf t, 1 ≤ x ∧ x ≤ 9 := fun x hx => by
              refine ⟨by unfold csOf at hx; obtain ⟨p, _, rfl⟩ := List.mem_map.mp hx; omega, ?_⟩
              rw [hcc] at hx
              rcases List.mem_cons.mp hx with rfl | hx
              · omega
              · have := d4.2 (x : Int) (List.mem_map_of_mem hx); omega
            have hC : isCode (csOf t) = true := by
              unfold isCode
              simp only [Bool.and_eq_true, decide_eq_true_eq, List.all_eq_true]
              exact ⟨by omega, hall⟩
            have c5 : (bS (csOf t) == t) = false := by
              have : ¬ bS (csOf t) = t := fun z => hP ⟨hC, z⟩
              simpa using this
            have hbe := fun μ => (beats_ok (cs := csOf t) (by omega) (fun c h => by have := hall c h; omega) μ).2
            unfold codeD at hbe
            simp only [restR, cV_, cK_, cBin_, cCall_, cCons_, cNil_, cH_, cD_, cA_, cT_, cIf_, cAndT_, cOrT_, cNotT_, cAndV_, cOrV_, cNotV_, cChain_, cSl_, cPart_, cNoPart_, cMt_, cIsi_, cNeg_, cFn_, sNil_, sCons_, sIf_, sSet_, sPar_, sExpr_, sRet_, sRetN_, sRaise_, sBrk_, sCnt_, sStore_, fnOf_, iAny_, iR1_, iR2_, iEn_, gN_, gT_, gsN_, gsC_, stepS_, cYes_, lcF_, bT, iP, isTy, tyName, opTup, opLst, opAdd, opII, cDivB, opMul, opOrd, opEq, kD_nn, kD_ii, kD_bb, kD_ss, kD_ni, kD_nb, kD_ns, kD_in, kD_bn, kD_sn, kD_is, kD_si, kD_bs, kD_sb, kD_tuple1, kD_tuple2, kD_list1, kD_list2, kD_ib, kD_bi, opIsN, opIx, opSl, one, fLen, fInt, fAbs, fTup, fList, see, hold, toD, adopt, Rs.bind, Rs.thenS, opStore, expo, itmOf, wipeR, mAppend, mExtend, List.getElem?_cons_zero, List.getElem?_cons_succ, List.map_cons, List.map_nil, List.length_cons, List.length_nil, List.cons_append, List.nil_append, List.replicate_succ, List.replicate_zero, List.set_cons_zero, List.set_cons_succ, Nat.zero_add, Nat.reduceAdd, Nat.reduceSub, ↓reduceIte, reduceCtorEq, String.reduceBEq, kb_NoneType_int, kb_NoneType_bool, kb_NoneType_str, kb_NoneType_tuple, kb_NoneType_list, kb_NoneType_dict, kb_bool_int, kb_bool_bool, kb_bool_str, kb_bool_tuple, kb_bool_list, kb_bool_dict, kb_int_int, kb_int_bool, kb_int_str, kb_int_tuple, kb_int_list, kb_int_dict, kb_str_int, kb_str_bool, kb_str_str, kb_str_tuple, kb_str_list, kb_str_dict, kb_list_int, kb_list_bool, kb_list_str, kb_list_tuple, kb_list_list, kb_list_dict, kb_tuple_int, kb_tuple_bool, kb_tuple_str, kb_tuple_tuple, kb_tuple_list, kb_tuple_dict, kb_dict_int, kb_dict_bool, kb_dict_str, kb_dict_tuple, kb_dict_list, kb_dict_dict, String.reduceEq, Int.reduceLT, Int.reduceLE, Int.reduceNeg, Int.reducePow, Nat.reducePow, Int.reduceToNat, Nat.reduceLT, Nat.reduceLeDiff, decide_true, decide_false, and_self, and_true, true_and, or_true, true_or, or_false, false_or, Bool.not_true, Bool.not_false, Bool.true_eq_false, Bool.false_eq_true, Option.map_some, Option.map_none, fBest, hg, hx, PyData.eqv, c1, hlen, c2, c3, hints, c4, hbe, c5]
          · have c4' := Bool.eq_false_iff.mpr c4
            simp only [restR, cV_, cK_, cBin_, cCall_, cCons_, cNil_, cH_, cD_, cA_, cT_, cIf_, cAndT_, cOrT_, cNotT_, cAndV_, cOrV_, cNotV_, cChain_, cSl_, cPart_, cNoPart_, cMt_, cIsi_, cNeg_, cFn_, sNil_, sCons_, sIf_, sSet_, sPar_, sExpr_, sRet_, sRetN_, sRaise_, sBrk_, sCnt_, sStore_, fnOf_, iAny_, iR1_, iR2_, iEn_, gN_, gT_, gsN_, gsC_, stepS_, cYes_, lcF_, bT, iP, isTy, tyName, opTup, opLst, opAdd, opII, cDivB, opMul, opOrd, opEq, kD_nn, kD_ii, kD_bb, kD_ss, kD_ni, kD_nb, kD_ns, kD_in, kD_bn, kD_sn, kD_is, kD_si, kD_bs, kD_sb, kD_tuple1, kD_tuple2, kD_list1, kD_list2, kD_ib, kD_bi, opIsN, opIx, opSl, one, fLen, fInt, fAbs, fTup, fList, see, hold, toD, adopt, Rs.bind, Rs.thenS, opStore, expo, itmOf, wipeR, mAppend, mExtend, List.getElem?_cons_zero, List.getElem?_cons_succ, List.map_cons, List.map_nil, List.length_cons, List.length_nil, List.cons_append, List.nil_append, List.replicate_succ, List.replicate_zero, List.set_cons_zero, List.set_cons_succ, Nat.zero_add, Nat.reduceAdd, Nat.reduceSub, ↓reduceIte, reduceCtorEq, String.reduceBEq, kb_NoneType_int, kb_NoneType_bool, kb_NoneType_str, kb_NoneType_tuple, kb_NoneType_list, kb_NoneType_dict, kb_bool_int, kb_bool_bool, kb_bool_str, kb_bool_tuple, kb_bool_list, kb_bool_dict, kb_int_int, kb_int_bool, kb_int_str, kb_int_tuple, kb_int_list, kb_int_dict, kb_str_int, kb_str_bool, kb_str_str, kb_str_tuple, kb_str_list, kb_str_dict, kb_list_int, kb_list_bool, kb_list_str, kb_list_tuple, kb_list_list, kb_list_dict, kb_tuple_int, kb_tuple_bool, kb_tuple_str, kb_tuple_tuple, kb_tuple_list, kb_tuple_dict, kb_dict_int, kb_dict_bool, kb_dict_str, kb_dict_tuple, kb_dict_list, kb_dict_dict, String.reduceEq, Int.reduceLT, Int.reduceLE, Int.reduceNeg, Int.reducePow, Nat.reducePow, Int.reduceToNat, Nat.reduceLT, Nat.reduceLeDiff, decide_true, decide_false, and_self, and_true, true_and, or_true, true_or, or_false, false_or, Bool.not_true, Bool.not_false, Bool.true_eq_false, Bool.false_eq_true, Option.map_some, Option.map_none, fBest, hg, hx, PyData.eqv, c1, hlen, c2, c3, hints, c4']
        · have c3' := Bool.eq_false_iff.mpr c3
          simp only [restR, cV_, cK_, cBin_, cCall_, cCons_, cNil_, cH_, cD_, cA_, cT_, cIf_, cAndT_, cOrT_, cNotT_, cAndV_, cOrV_, cNotV_, cChain_, cSl_, cPart_, cNoPart_, cMt_, cIsi_, cNeg_, cFn_, sNil_, sCons_, sIf_, sSet_, sPar_, sExpr_, sRet_, sRetN_, sRaise_, sBrk_, sCnt_, sStore_, fnOf_, iAny_, iR1_, iR2_, iEn_, gN_, gT_, gsN_, gsC_, stepS_, cYes_, lcF_, bT, iP, isTy, tyName, opTup, opLst, opAdd, opII, cDivB, opMul, opOrd, opEq, kD_nn, kD_ii, kD_bb, kD_ss, kD_ni, kD_nb, kD_ns, kD_in, kD_bn, kD_sn, kD_is, kD_si, kD_bs, kD_sb, kD_tuple1, kD_tuple2, kD_list1, kD_list2, kD_ib, kD_bi, opIsN, opIx, opSl, one, fLen, fInt, fAbs, fTup, fList, see, hold, toD, adopt, Rs.bind, Rs.thenS, opStore, expo, itmOf, wipeR, mAppend, mExtend, List.getElem?_cons_zero, List.getElem?_cons_succ, List.map_cons, List.map_nil, List.length_cons, List.length_nil, List.cons_append, List.nil_append, List.replicate_succ, List.replicate_zero, List.set_cons_zero, List.set_cons_succ, Nat.zero_add, Nat.reduceAdd, Nat.reduceSub, ↓reduceIte, reduceCtorEq, String.reduceBEq, kb_NoneType_int, kb_NoneType_bool, kb_NoneType_str, kb_NoneType_tuple, kb_NoneType_list, kb_NoneType_dict, kb_bool_int, kb_bool_bool, kb_bool_str, kb_bool_tuple, kb_bool_list, kb_bool_dict, kb_int_int, kb_int_bool, kb_int_str, kb_int_tuple, kb_int_list, kb_int_dict, kb_str_int, kb_str_bool, kb_str_str, kb_str_tuple, kb_str_list, kb_str_dict, kb_list_int, kb_list_bool, kb_list_str, kb_list_tuple, kb_list_list, kb_list_dict, kb_tuple_int, kb_tuple_bool, kb_tuple_str, kb_tuple_tuple, kb_tuple_list, kb_tuple_dict, kb_dict_int, kb_dict_bool, kb_dict_str, kb_dict_tuple, kb_dict_list, kb_dict_dict, String.reduceEq, Int.reduceLT, Int.reduceLE, Int.reduceNeg, Int.reducePow, Nat.reducePow, Int.reduceToNat, Nat.reduceLT, Nat.reduceLeDiff, decide_true, decide_false, and_self, and_true, true_and, or_true, true_or, or_false, false_or, Bool.not_true, Bool.not_false, Bool.true_eq_false, Bool.false_eq_true, Option.map_some, Option.map_none, fBest, hg, hx, PyData.eqv, c1, hlen, c2, c3']
      · have c2' := Bool.eq_false_iff.mpr c2
        simp only [restR, cV_, cK_, cBin_, cCall_, cCons_, cNil_, cH_, cD_, cA_, cT_, cIf_, cAndT_, cOrT_, cNotT_, cAndV_, cOrV_, cNotV_, cChain_, cSl_, cPart_, cNoPart_, cMt_, cIsi_, cNeg_, cFn_, sNil_, sCons_, sIf_, sSet_, sPar_, sExpr_, sRet_, sRetN_, sRaise_, sBrk_, sCnt_, sStore_, fnOf_, iAny_, iR1_, iR2_, iEn_, gN_, gT_, gsN_, gsC_, stepS_, cYes_, lcF_, bT, iP, isTy, tyName, opTup, opLst, opAdd, opII, cDivB, opMul, opOrd, opEq, kD_nn, kD_ii, kD_bb, kD_ss, kD_ni, kD_nb, kD_ns, kD_in, kD_bn, kD_sn, kD_is, kD_si, kD_bs, kD_sb, kD_tuple1, kD_tuple2, kD_list1, kD_list2, kD_ib, kD_bi, opIsN, opIx, opSl, one, fLen, fInt, fAbs, fTup, fList, see, hold, toD, adopt, Rs.bind, Rs.thenS, opStore, expo, itmOf, wipeR, mAppend, mExtend, List.getElem?_cons_zero, List.getElem?_cons_succ, List.map_cons, List.map_nil, List.length_cons, List.length_nil, List.cons_append, List.nil_append, List.replicate_succ, List.replicate_zero, List.set_cons_zero, List.set_cons_succ, Nat.zero_add, Nat.reduceAdd, Nat.reduceSub, ↓reduceIte, reduceCtorEq, String.reduceBEq, kb_NoneType_int, kb_NoneType_bool, kb_NoneType_str, kb_NoneType_tuple, kb_NoneType_list, kb_NoneType_dict, kb_bool_int, kb_bool_bool, kb_bool_str, kb_bool_tuple, kb_bool_list, kb_bool_dict, kb_int_int, kb_int_bool, kb_int_str, kb_int_tuple, kb_int_list, kb_int_dict, kb_str_int, kb_str_bool, kb_str_str, kb_str_tuple, kb_str_list, kb_str_dict, kb_list_int, kb_list_bool, kb_list_str, kb_list_tuple, kb_list_list, kb_list_dict, kb_tuple_int, kb_tuple_bool, kb_tuple_str, kb_tuple_tuple, kb_tuple_list, kb_tuple_dict, kb_dict_int, kb_dict_bool, kb_dict_str, kb_dict_tuple, kb_dict_list, kb_dict_dict, String.reduceEq, Int.reduceLT, Int.reduceLE, Int.reduceNeg, Int.reducePow, Nat.reducePow, Int.reduceToNat, Nat.reduceLT, Nat.reduceLeDiff, decide_true, decide_false, and_self, and_true, true_and, or_true, true_or, or_false, false_or, Bool.not_true, Bool.not_false, Bool.true_eq_false, Bool.false_eq_true, Option.map_some, Option.map_none, fBest, hg, hx, PyData.eqv, c1, hlen, c2']
    · have c1' := Bool.eq_false_iff.mpr c1
      simp only [restR, cV_, cK_, cBin_, cCall_, cCons_, cNil_, cH_, cD_, cA_, cT_, cIf_, cAndT_, cOrT_, cNotT_, cAndV_, cOrV_, cNotV_, cChain_, cSl_, cPart_, cNoPart_, cMt_, cIsi_, cNeg_, cFn_, sNil_, sCons_, sIf_, sSet_, sPar_, sExpr_, sRet_, sRetN_, sRaise_, sBrk_, sCnt_, sStore_, fnOf_, iAny_, iR1_, iR2_, iEn_, gN_, gT_, gsN_, gsC_, stepS_, cYes_, lcF_, bT, iP, isTy, tyName, opTup, opLst, opAdd, opII, cDivB, opMul, opOrd, opEq, kD_nn, kD_ii, kD_bb, kD_ss, kD_ni, kD_nb, kD_ns, kD_in, kD_bn, kD_sn, kD_is, kD_si, kD_bs, kD_sb, kD_tuple1, kD_tuple2, kD_list1, kD_list2, kD_ib, kD_bi, opIsN, opIx, opSl, one, fLen, fInt, fAbs, fTup, fList, see, hold, toD, adopt, Rs.bind, Rs.thenS, opStore, expo, itmOf, wipeR, mAppend, mExtend, List.getElem?_cons_zero, List.getElem?_cons_succ, List.map_cons, List.map_nil, List.length_cons, List.length_nil, List.cons_append, List.nil_append, List.replicate_succ, List.replicate_zero, List.set_cons_zero, List.set_cons_succ, Nat.zero_add, Nat.reduceAdd, Nat.reduceSub, ↓reduceIte, reduceCtorEq, String.reduceBEq, kb_NoneType_int, kb_NoneType_bool, kb_NoneType_str, kb_NoneType_tuple, kb_NoneType_list, kb_NoneType_dict, kb_bool_int, kb_bool_bool, kb_bool_str, kb_bool_tuple, kb_bool_list, kb_bool_dict, kb_int_int, kb_int_bool, kb_int_str, kb_int_tuple, kb_int_list, kb_int_dict, kb_str_int, kb_str_bool, kb_str_str, kb_str_tuple, kb_str_list, kb_str_dict, kb_list_int, kb_list_bool, kb_list_str, kb_list_tuple, kb_list_list, kb_list_dict, kb_tuple_int, kb_tuple_bool, kb_tuple_str, kb_tuple_tuple, kb_tuple_list, kb_tuple_dict, kb_dict_int, kb_dict_bool, kb_dict_str, kb_dict_tuple, kb_dict_list, kb_dict_dict, String.reduceEq, Int.reduceLT, Int.reduceLE, Int.reduceNeg, Int.reducePow, Nat.reducePow, Int.reduceToNat, Nat.reduceLT, Nat.reduceLeDiff, decide_true, decide_false, and_self, and_true, true_and, or_true, true_or, or_false, false_or, Bool.not_true, Bool.not_false, Bool.true_eq_false, Bool.false_eq_true, Option.map_some, Option.map_none, fBest, hg, hx, PyData.eqv, c1']
theorem read_ok {t : Str} (hl : t.length ≤ 400) (μ : Mem) : F__law_read [.d (.str t)] μ = .ok (.d (readD t)) μ := by
  have l00 : ("00" : Str).length = 2 := by decide
  have hs1 : t.length + ("00" : Str).length ≤ sizeLine := nat_sizeLine (by omega)
  have hs3 : (("1000" : Str).length == 0) = false ∧ (t ++ ("00" : Str)).length + 2 ≤ sizeLine := ⟨by decide, nat_sizeLine (by rw [len_app]; omega)⟩
  obtain ⟨pl1, pl2⟩ := parts_len t
  have h0 : (0 : Nat) ≤ sizeLine := by decide
  have hL1 : cLc (iAny (cH (cMt "str" mSplit (cH (cBin opAdd (cV 0) (cK (.str "00")))) (cCons (cK (.str "1000")) cNil)))) [3] (gN 3) cYes (cV 3) [some (.d (.str t)), none, none, none, none] μ = .ok (.fl ((partsS t).map PyData.str)) μ := by
    have := cLc_map1 (ci := iAny (cH (cMt "str" mSplit (cH (cBin opAdd (cV 0) (cK (.str "00")))) (cCons (cK (.str "1000")) cNil)))) (own := [3]) (g := gN 3) (tt := cYes) (te := cV 3) (ρ := [some (.d (.str t)), none, none, none, none]) (μ := μ) (μ1 := μ) (ds := (partsS t).map PyData.str) id (itm_list _) (by
      simp only [cV_, cK_, cBin_, cCall_, cCons_, cNil_, cH_, cD_, cA_, cT_, cIf_, cAndT_, cOrT_, cNotT_, cAndV_, cOrV_, cNotV_, cChain_, cSl_, cPart_, cNoPart_, cMt_, cIsi_, cNeg_, cFn_, sNil_, sCons_, sIf_, sSet_, sPar_, sExpr_, sRet_, sRetN_, sRaise_, sBrk_, sCnt_, sStore_, fnOf_, iAny_, iR1_, iR2_, iEn_, gN_, gT_, gsN_, gsC_, stepS_, cYes_, lcF_, bT, iP, isTy, tyName, opTup, opLst, opAdd, opII, cDivB, opMul, opOrd, opEq, kD_nn, kD_ii, kD_bb, kD_ss, kD_ni, kD_nb, kD_ns, kD_in, kD_bn, kD_sn, kD_is, kD_si, kD_bs, kD_sb, kD_tuple1, kD_tuple2, kD_list1, kD_list2, kD_ib, kD_bi, opIsN, opIx, opSl, one, fLen, fInt, fAbs, fTup, fList, see, hold, toD, adopt, Rs.bind, Rs.thenS, opStore, expo, itmOf, wipeR, mAppend, mExtend, List.getElem?_cons_zero, List.getElem?_cons_succ, List.map_cons, List.map_nil, List.length_cons, List.length_nil, List.cons_append, List.nil_append, List.replicate_succ, List.replicate_zero, List.set_cons_zero, List.set_cons_succ, Nat.zero_add, Nat.reduceAdd, Nat.reduceSub, ↓reduceIte, reduceCtorEq, String.reduceBEq, kb_NoneType_int, kb_NoneType_bool, kb_NoneType_str, kb_NoneType_tuple, kb_NoneType_list, kb_NoneType_dict, kb_bool_int, kb_bool_bool, kb_bool_str, kb_bool_tuple, kb_bool_list, kb_bool_dict, kb_int_int, kb_int_bool, kb_int_str, kb_int_tuple, kb_int_list, kb_int_dict, kb_str_int, kb_str_bool, kb_str_str, kb_str_tuple, kb_str_list, kb_str_dict, kb_list_int, kb_list_bool, kb_list_str, kb_list_tuple, kb_list_list, kb_list_dict, kb_tuple_int, kb_tuple_bool, kb_tuple_str, kb_tuple_tuple, kb_tuple_list, kb_tuple_dict, kb_dict_int, kb_dict_bool, kb_dict_str, kb_dict_tuple, kb_dict_list, kb_dict_dict, String.reduceEq, Int.reduceLT, Int.reduceLE, Int.reduceNeg, Int.reducePow, Nat.reducePow, Int.reduceToNat, Nat.reduceLT, Nat.reduceLeDiff, decide_true, decide_false, and_self, and_true, true_and, or_true, true_or, or_false, false_or, Bool.not_true, Bool.not_false, Bool.true_eq_false, Bool.false_eq_true, Option.map_some, Option.map_none, if_pos hs1, mSplit, if_pos hs3]
      rfl) (nat_sizeLine (by rw [List.length_map]; omega)) (fun d hd μ' _ => by
      obtain ⟨p, hp, rfl⟩ := List.mem_map.mp hd
      simp only [cV_, cK_, cBin_, cCall_, cCons_, cNil_, cH_, cD_, cA_, cT_, cIf_, cAndT_, cOrT_, cNotT_, cAndV_, cOrV_, cNotV_, cChain_, cSl_, cPart_, cNoPart_, cMt_, cIsi_, cNeg_, cFn_, sNil_, sCons_, sIf_, sSet_, sPar_, sExpr_, sRet_, sRetN_, sRaise_, sBrk_, sCnt_, sStore_, fnOf_, iAny_, iR1_, iR2_, iEn_, gN_, gT_, gsN_, gsC_, stepS_, cYes_, lcF_, bT, iP, isTy, tyName, opTup, opLst, opAdd, opII, cDivB, opMul, opOrd, opEq, kD_nn, kD_ii, kD_bb, kD_ss, kD_ni, kD_nb, kD_ns, kD_in, kD_bn, kD_sn, kD_is, kD_si, kD_bs, kD_sb, kD_tuple1, kD_tuple2, kD_list1, kD_list2, kD_ib, kD_bi, opIsN, opIx, opSl, one, fLen, fInt, fAbs, fTup, fList, see, hold, toD, adopt, Rs.bind, Rs.thenS, opStore, expo, itmOf, wipeR, mAppend, mExtend, List.getElem?_cons_zero, List.getElem?_cons_succ, List.map_cons, List.map_nil, List.length_cons, List.length_nil, List.cons_append, List.nil_append, List.replicate_succ, List.replicate_zero, List.set_cons_zero, List.set_cons_succ, Nat.zero_add, Nat.reduceAdd, Nat.reduceSub, ↓reduceIte, reduceCtorEq, String.reduceBEq, kb_NoneType_int, kb_NoneType_bool, kb_NoneType_str, kb_NoneType_tuple, kb_NoneType_list, kb_NoneType_dict, kb_bool_int, kb_bool_bool, kb_bool_str, kb_bool_tuple, kb_bool_list, kb_bool_dict, kb_int_int, kb_int_bool, kb_int_str, kb_int_tuple, kb_int_list, kb_int_dict, kb_str_int, kb_str_bool, kb_str_str, kb_str_tuple, kb_str_list, kb_str_dict, kb_list_int, kb_list_bool, kb_list_str, kb_list_tuple, kb_list_list, kb_list_dict, kb_tuple_int, kb_tuple_bool, kb_tuple_str, kb_tuple_tuple, kb_tuple_list, kb_tuple_dict, kb_dict_int, kb_dict_bool, kb_dict_str, kb_dict_tuple, kb_dict_list, kb_dict_dict, String.reduceEq, Int.reduceLT, Int.reduceLE, Int.reduceNeg, Int.reducePow, Nat.reducePow, Int.reduceToNat, Nat.reduceLT, Nat.reduceLeDiff, decide_true, decide_false, and_self, and_true, true_and, or_true, true_or, or_false, false_or, Bool.not_true, Bool.not_false, Bool.true_eq_false, Bool.false_eq_true, Option.map_some, Option.map_none, id])
    rwa [List.map_id] at this
  have hdl : ((partsS t).map PyData.str).dropLast = (partsS t).dropLast.map PyData.str := List.map_dropLast.symm
  have key := forL_post (b := stepS (gN 3) bodyR) (itm_list ((partsS t).dropLast.map PyData.str)) (fun i ρ μ' => ∃ z3, ρ = [some (.d (.str t)), some (.d (.list ((partsS t).map .str))), some (.c μ.length), z3, none] ∧ μ' = μ ++ [.lst (((partsS t).dropLast.take i).map (incD ∘ halfD ∘ PyData.str))] ∧ ∀ p ∈ (partsS t).dropLast.take i, goodP p)
    (fun o => (∃ z3, o = .nx [some (.d (.str t)), some (.d (.list ((partsS t).map .str))), some (.c μ.length), z3, none] (μ ++ [.lst ((csOf t).map fun (c : Nat) => PyData.int (c : Int))]) ∧ ∀ p ∈ (partsS t).dropLast, goodP p) ∨ (∃ acc, o = .rt (.d .none) (μ ++ [.lst acc]) ∧ ∃ p ∈ (partsS t).dropLast, ¬ goodP p))
    (fun i d ρ μ' e hI => by
      obtain ⟨z3, rfl, rfl, hgood⟩ := hI
      rw [List.getElem?_map] at e
      cases hp : (partsS t).dropLast[i]? with
      | none => rw [hp] at e; cases e
      | some p =>
        rw [hp] at e
        cases e
        have hm := List.mem_of_getElem? hp
        have hpl := pl2 p (List.dropLast_subset _ hm)
        have run := bodyR_run (t := t) (x1 := .list ((partsS t).map .str)) (z3 := z3) (z4 := none) (n := μ.length) (p := p) (acc := ((partsS t).dropLast.take i).map (incD ∘ halfD ∘ PyData.str)) (μ := μ) rfl (by omega) (by simp; omega)
        by_cases hg : p = strRep "10" ((p.length / 2 : Nat) : Int)
        · rw [if_pos hg] at run
          refine .inl ⟨_, _, .inl run, _, rfl, ?_, fun q hq => ?_⟩
          · rw [List.take_add_one, hp, List.map_append]; rfl
          · rw [List.take_add_one, hp] at hq
            rcases List.mem_append.mp hq with hq | hq
            · exact hgood q hq
            · simp at hq; subst hq; exact hg
        · rw [if_neg hg] at run
          exact .inr (.inr (.inl ⟨_, _, run, .inr ⟨_, rfl, p, hm, hg⟩⟩)))
    (fun ρ μ' hI => by
      obtain ⟨z3, rfl, rfl, hgood⟩ := hI
      rw [List.length_map, List.take_length] at *
      refine .inl ⟨z3, ?_, hgood⟩
      congr 3
      unfold csOf
      rw [List.map_map]
      rfl)
    ((partsS t).dropLast.map PyData.str).length 0 [some (.d (.str t)), some (.d (.list ((partsS t).map .str))), some (.c μ.length), none, none] (μ ++ [.lst []]) (by omega) ⟨none, rfl, rfl, by simp⟩
  have hfor : sFor (iAny (cH (cSl (cV 1) cNoPart (cPart (cNeg (cK (.int 1))))))) (gN 3) bodyR [some (.d (.str t)), some (.d (.list ((partsS t).map .str))), some (.c μ.length), none, none] (μ ++ [.lst []]) = _ := sFor_eq (itm_list ((partsS t).dropLast.map PyData.str)) (μ1 := μ ++ [.lst []]) (by simp only [cV_, cK_, cBin_, cCall_, cCons_, cNil_, cH_, cD_, cA_, cT_, cIf_, cAndT_, cOrT_, cNotT_, cAndV_, cOrV_, cNotV_, cChain_, cSl_, cPart_, cNoPart_, cMt_, cIsi_, cNeg_, cFn_, sNil_, sCons_, sIf_, sSet_, sPar_, sExpr_, sRet_, sRetN_, sRaise_, sBrk_, sCnt_, sStore_, fnOf_, iAny_, iR1_, iR2_, iEn_, gN_, gT_, gsN_, gsC_, stepS_, cYes_, lcF_, bT, iP, isTy, tyName, opTup, opLst, opAdd, opII, cDivB, opMul, opOrd, opEq, kD_nn, kD_ii, kD_bb, kD_ss, kD_ni, kD_nb, kD_ns, kD_in, kD_bn, kD_sn, kD_is, kD_si, kD_bs, kD_sb, kD_tuple1, kD_tuple2, kD_list1, kD_list2, kD_ib, kD_bi, opIsN, opIx, opSl, one, fLen, fInt, fAbs, fTup, fList, see, hold, toD, adopt, Rs.bind, Rs.thenS, opStore, expo, itmOf, wipeR, mAppend, mExtend, List.getElem?_cons_zero, List.getElem?_cons_succ, List.map_cons, List.map_nil, List.length_cons, List.length_nil, List.cons_append, List.nil_append, List.replicate_succ, List.replicate_zero, List.set_cons_zero, List.set_cons_succ, Nat.zero_add, Nat.reduceAdd, Nat.reduceSub, ↓reduceIte, reduceCtorEq, String.reduceBEq, kb_NoneType_int, kb_NoneType_bool, kb_NoneType_str, kb_NoneType_tuple, kb_NoneType_list, kb_NoneType_dict, kb_bool_int, kb_bool_bool, kb_bool_str, kb_bool_tuple, kb_bool_list, kb_bool_dict, kb_int_int, kb_int_bool, kb_int_str, kb_int_tuple, kb_int_list, kb_int_dict, kb_str_int, kb_str_bool, kb_str_str, kb_str_tuple, kb_str_list, kb_str_dict, kb_list_int, kb_list_bool, kb_list_str, kb_list_tuple, kb_list_list, kb_list_dict, kb_tuple_int, kb_tuple_bool, kb_tuple_str, kb_tuple_tuple, kb_tuple_list, kb_tuple_dict, kb_dict_int, kb_dict_bool, kb_dict_str, kb_dict_tuple, kb_dict_list, kb_dict_dict, String.reduceEq, Int.reduceLT, Int.reduceLE, Int.reduceNeg, Int.reducePow, Nat.reducePow, Int.reduceToNat, Nat.reduceLT, Nat.reduceLeDiff, decide_true, decide_false, and_self, and_true, true_and, or_true, true_or, or_false, false_or, Bool.not_true, Bool.not_false, Bool.true_eq_false, Bool.false_eq_true, Option.map_some, Option.map_none, cutD_init, hdl])
  rcases key with ⟨z3, e, hgood⟩ | ⟨acc, e, p, hp, hng⟩
  · rw [e] at hfor
    have hrest := restR_run hl (z3 := z3) (μ := μ) hgood
    simp only [F__law_read, read_body, cV_, cK_, cBin_, cCall_, cCons_, cNil_, cH_, cD_, cA_, cT_, cIf_, cAndT_, cOrT_, cNotT_, cAndV_, cOrV_, cNotV_, cChain_, cSl_, cPart_, cNoPart_, cMt_, cIsi_, cNeg_, cFn_, sNil_, sCons_, sIf_, sSet_, sPar_, sExpr_, sRet_, sRetN_, sRaise_, sBrk_, sCnt_, sStore_, fnOf_, iAny_, iR1_, iR2_, iEn_, gN_, gT_, gsN_, gsC_, stepS_, cYes_, lcF_, bT, iP, isTy, tyName, opTup, opLst, opAdd, opII, cDivB, opMul, opOrd, opEq, kD_nn, kD_ii, kD_bb, kD_ss, kD_ni, kD_nb, kD_ns, kD_in, kD_bn, kD_sn, kD_is, kD_si, kD_bs, kD_sb, kD_tuple1, kD_tuple2, kD_list1, kD_list2, kD_ib, kD_bi, opIsN, opIx, opSl, one, fLen, fInt, fAbs, fTup, fList, see, hold, toD, adopt, Rs.bind, Rs.thenS, opStore, expo, itmOf, wipeR, mAppend, mExtend, List.getElem?_cons_zero, List.getElem?_cons_succ, List.map_cons, List.map_nil, List.length_cons, List.length_nil, List.cons_append, List.nil_append, List.replicate_succ, List.replicate_zero, List.set_cons_zero, List.set_cons_succ, Nat.zero_add, Nat.reduceAdd, Nat.reduceSub, ↓reduceIte, reduceCtorEq, String.reduceBEq, kb_NoneType_int, kb_NoneType_bool, kb_NoneType_str, kb_NoneType_tuple, kb_NoneType_list, kb_NoneType_dict, kb_bool_int, kb_bool_bool, kb_bool_str, kb_bool_tuple, kb_bool_list, kb_bool_dict, kb_int_int, kb_int_bool, kb_int_str, kb_int_tuple, kb_int_list, kb_int_dict, kb_str_int, kb_str_bool, kb_str_str, kb_str_tuple, kb_str_list, kb_str_dict, kb_list_int, kb_list_bool, kb_list_str, kb_list_tuple, kb_list_list, kb_list_dict, kb_tuple_int, kb_tuple_bool, kb_tuple_str, kb_tuple_tuple, kb_tuple_list, kb_tuple_dict, kb_dict_int, kb_dict_bool, kb_dict_str, kb_dict_tuple, kb_dict_list, kb_dict_dict, String.reduceEq, Int.reduceLT, Int.reduceLE, Int.reduceNeg, Int.reducePow, Nat.reducePow, Int.reduceToNat, Nat.reduceLT, Nat.reduceLeDiff, decide_true, decide_false, and_self, and_true, true_and, or_true, true_or, or_false, false_or, Bool.not_true, Bool.not_false, Bool.true_eq_false, Bool.false_eq_true, Option.map_some, Option.map_none, hL1, List.mapM_nil, Option.pure_def, if_pos h0, hfor, hrest, List.take_left]
  · rw [e] at hfor
    have hr : readD t = .none := by
      unfold readD
      rw [if_neg]
      intro z
      exact hng ((parts_of_read z.1 z.2).1 p hp)
    rw [hr]
    simp only [F__law_read, read_body, cV_, cK_, cBin_, cCall_, cCons_, cNil_, cH_, cD_, cA_, cT_, cIf_, cAndT_, cOrT_, cNotT_, cAndV_, cOrV_, cNotV_, cChain_, cSl_, cPart_, cNoPart_, cMt_, cIsi_, cNeg_, cFn_, sNil_, sCons_, sIf_, sSet_, sPar_, sExpr_, sRet_, sRetN_, sRaise_, sBrk_, sCnt_, sStore_, fnOf_, iAny_, iR1_, iR2_, iEn_, gN_, gT_, gsN_, gsC_, stepS_, cYes_, lcF_, bT, iP, isTy, tyName, opTup, opLst, opAdd, opII, cDivB, opMul, opOrd, opEq, kD_nn, kD_ii, kD_bb, kD_ss, kD_ni, kD_nb, kD_ns, kD_in, kD_bn, kD_sn, kD_is, kD_si, kD_bs, kD_sb, kD_tuple1, kD_tuple2, kD_list1, kD_list2, kD_ib, kD_bi, opIsN, opIx, opSl, one, fLen, fInt, fAbs, fTup, fList, see, hold, toD, adopt, Rs.bind, Rs.thenS, opStore, expo, itmOf, wipeR, mAppend, mExtend, List.getElem?_cons_zero, List.getElem?_cons_succ, List.map_cons, List.map_nil, List.length_cons, List.length_nil, List.cons_append, List.nil_append, List.replicate_succ, List.replicate_zero, List.set_cons_zero, List.set_cons_succ, Nat.zero_add, Nat.reduceAdd, Nat.reduceSub, ↓reduceIte, reduceCtorEq, String.reduceBEq, kb_NoneType_int, kb_NoneType_bool, kb_NoneType_str, kb_NoneType_tuple, kb_NoneType_list, kb_NoneType_dict, kb_bool_int, kb_bool_bool, kb_bool_str, kb_bool_tuple, kb_bool_list, kb_bool_dict, kb_int_int, kb_int_bool, kb_int_str, kb_int_tuple, kb_int_list, kb_int_dict, kb_str_int, kb_str_bool, kb_str_str, kb_str_tuple, kb_str_list, kb_str_dict, kb_list_int, kb_list_bool, kb_list_str, kb_list_tuple, kb_list_list, kb_list_dict, kb_tuple_int, kb_tuple_bool, kb_tuple_str, kb_tuple_tuple, kb_tuple_list, kb_tuple_dict, kb_dict_int, kb_dict_bool, kb_dict_str, kb_dict_tuple, kb_dict_list, kb_dict_dict, String.reduceEq, Int.reduceLT, Int.reduceLE, Int.reduceNeg, Int.reducePow, Nat.reducePow, Int.reduceToNat, Nat.reduceLT, Nat.reduceLeDiff, decide_true, decide_false, and_self, and_true, true_and, or_true, true_or, or_false, false_or, Bool.not_true, Bool.not_false, Bool.true_eq_false, Bool.false_eq_true, Option.map_some, Option.map_none, hL1, List.mapM_nil, Option.pure_def, if_pos h0, hfor, List.take_left]
end L52
set_option maxRecDepth 100000
set_option maxHeartbeats 1000000
namespace L52
open PySem PySem.Spec PyProof.Rows L2 Em
open TL (tl)
/-! ### the hand in the first cell -/
def HM (μ : Mem) : Prop := ∃ ds, μ[0]? = some (.lst ds) ∧ HandOk ds
theorem HM.app {μ : Mem} (h : HM μ) (t : Mem) : HM (μ ++ t) := by
  obtain ⟨ds, h1, h2⟩ := h
  exact ⟨ds, by rw [List.getElem?_append_left (get_lt h1)]; exact h1, h2⟩
theorem HM.set {μ : Mem} (h : HM μ) {k : Nat} (hk : k ≠ 0) (c : Cell) : HM (μ.set k c) := by
  obtain ⟨ds, h1, h2⟩ := h
  exact ⟨ds, by rw [List.getElem?_set_ne hk]; exact h1, h2⟩
theorem draw_hm {μ : Mem} {m : Int} (h : HM μ) (h0 : 0 < m) (h1 : m < 1073741824) (t : Mem) : ∃ (r : Int) (μ' : Mem), F__law_draw [.c 0, .d (.int m)] (μ ++ t) = .ok (.d (.int r)) (μ' ++ t) ∧ HM μ' ∧ μ'.length = μ.length ∧ 0 ≤ r ∧ r < m := by
  obtain ⟨ds, e1, e2⟩ := h
  have e3 : (μ ++ t)[0]? = some (.lst ds) := by rw [List.getElem?_append_left (get_lt e1)]; exact e1
  obtain ⟨r, ds', e, hk, r0, r1⟩ := draw_ok e3 e2 h0 h1
  refine ⟨r, μ.set 0 (.lst ds'), ?_, ⟨ds', get_set e1, hk⟩, by simp, r0, r1⟩
  rw [e, List.set_append_left _ _ (get_lt e1)]
theorem any_hm {μ : Mem} {xs : List D} (h : HM μ) (h0 : 0 < xs.length) (h1 : xs.length < 1000) : ∃ (d : D) (μ' : Mem), F__law_any [.c 0, .d (.list xs)] μ = .ok (.d d) μ' ∧ HM μ' ∧ μ'.length = μ.length ∧ d ∈ xs := by
  obtain ⟨ds, e1, e2⟩ := h
  obtain ⟨d, ds', e, hk, hm⟩ := any_ok e1 e2 h0 h1
  exact ⟨d, _, e, ⟨ds', get_set e1, hk⟩, by simp, hm⟩
/-! ### bad things and words -/
theorem beats_of_ok {cs : List Nat} (h : isCode cs = true) (μ : Mem) : F_beats_of [.d (codeD cs)] μ = .ok (.d (.str (bS cs))) μ := by
  have hc : codeB (codeD cs) = true := by rw [codeB_codeD]; exact h
  unfold isCode at h
  simp only [Bool.and_eq_true, decide_eq_true_eq, List.all_eq_true] at h
  have h1 := is_code_ok (codeD cs) rfl (fun xs e => by
    cases e
    exact ⟨by simp; omega, fun y hy => by obtain ⟨c, _, rfl⟩ := List.mem_map.mp hy; rfl⟩)
  rw [hc] at h1
  have h2 := fun μ => (beats_ok (cs := cs) (by omega) (fun c h' => by have := h.2 c h'; omega) μ).1
  simp only [F_beats_of, C_beats_of, cV_, cK_, cBin_, cCall_, cCons_, cNil_, cH_, cD_, cA_, cT_, cIf_, cAndT_, cOrT_, cNotT_, cAndV_, cOrV_, cNotV_, cChain_, cSl_, cPart_, cNoPart_, cMt_, cIsi_, cNeg_, cFn_, sNil_, sCons_, sIf_, sSet_, sPar_, sExpr_, sRet_, sRetN_, sRaise_, sBrk_, sCnt_, sStore_, fnOf_, iAny_, iR1_, iR2_, iEn_, gN_, gT_, gsN_, gsC_, stepS_, cYes_, lcF_, bT, iP, isTy, tyName, opTup, opLst, opAdd, opII, cDivB, opMul, opOrd, opEq, kD_nn, kD_ii, kD_bb, kD_ss, kD_ni, kD_nb, kD_ns, kD_in, kD_bn, kD_sn, kD_is, kD_si, kD_bs, kD_sb, kD_tuple1, kD_tuple2, kD_list1, kD_list2, kD_ib, kD_bi, opIsN, opIx, opSl, one, fLen, fInt, fAbs, fTup, fList, see, hold, toD, adopt, Rs.bind, Rs.thenS, opStore, expo, itmOf, wipeR, mAppend, mExtend, List.getElem?_cons_zero, List.getElem?_cons_succ, List.map_cons, List.map_nil, List.length_cons, List.length_nil, List.cons_append, List.nil_append, List.replicate_succ, List.replicate_zero, List.set_cons_zero, List.set_cons_succ, Nat.zero_add, Nat.reduceAdd, Nat.reduceSub, ↓reduceIte, reduceCtorEq, String.reduceBEq, kb_NoneType_int, kb_NoneType_bool, kb_NoneType_str, kb_NoneType_tuple, kb_NoneType_list, kb_NoneType_dict, kb_bool_int, kb_bool_bool, kb_bool_str, kb_bool_tuple, kb_bool_list, kb_bool_dict, kb_int_int, kb_int_bool, kb_int_str, kb_int_tuple, kb_int_list, kb_int_dict, kb_str_int, kb_str_bool, kb_str_str, kb_str_tuple, kb_str_list, kb_str_dict, kb_list_int, kb_list_bool, kb_list_str, kb_list_tuple, kb_list_list, kb_list_dict, kb_tuple_int, kb_tuple_bool, kb_tuple_str, kb_tuple_tuple, kb_tuple_list, kb_tuple_dict, kb_dict_int, kb_dict_bool, kb_dict_str, kb_dict_tuple, kb_dict_list, kb_dict_dict, String.reduceEq, Int.reduceLT, Int.reduceLE, Int.reduceNeg, Int.reducePow, Nat.reducePow, Int.reduceToNat, Nat.reduceLT, Nat.reduceLeDiff, decide_true, decide_false, and_self, and_true, true_and, or_true, true_or, or_false, false_or, Bool.not_true, Bool.not_false, Bool.true_eq_false, Bool.false_eq_true, Option.map_some, Option.map_none, h1, h2, List.take_length]
theorem beats_of_bad {x : D} (hx : noDict x = true) (hx2 : ∀ xs, x = .tuple xs → xs.length ≤ 1000 ∧ ∀ y ∈ xs, noDict y = true) (hb : codeB x = false) (μ : Mem) : F_beats_of [.d x] μ = .ex ⟨"NoCode", none⟩ μ := by
  have h1 := is_code_ok x hx hx2
  rw [hb] at h1
  simp only [F_beats_of, C_beats_of, cV_, cK_, cBin_, cCall_, cCons_, cNil_, cH_, cD_, cA_, cT_, cIf_, cAndT_, cOrT_, cNotT_, cAndV_, cOrV_, cNotV_, cChain_, cSl_, cPart_, cNoPart_, cMt_, cIsi_, cNeg_, cFn_, sNil_, sCons_, sIf_, sSet_, sPar_, sExpr_, sRet_, sRetN_, sRaise_, sBrk_, sCnt_, sStore_, fnOf_, iAny_, iR1_, iR2_, iEn_, gN_, gT_, gsN_, gsC_, stepS_, cYes_, lcF_, bT, iP, isTy, tyName, opTup, opLst, opAdd, opII, cDivB, opMul, opOrd, opEq, kD_nn, kD_ii, kD_bb, kD_ss, kD_ni, kD_nb, kD_ns, kD_in, kD_bn, kD_sn, kD_is, kD_si, kD_bs, kD_sb, kD_tuple1, kD_tuple2, kD_list1, kD_list2, kD_ib, kD_bi, opIsN, opIx, opSl, one, fLen, fInt, fAbs, fTup, fList, see, hold, toD, adopt, Rs.bind, Rs.thenS, opStore, expo, itmOf, wipeR, mAppend, mExtend, List.getElem?_cons_zero, List.getElem?_cons_succ, List.map_cons, List.map_nil, List.length_cons, List.length_nil, List.cons_append, List.nil_append, List.replicate_succ, List.replicate_zero, List.set_cons_zero, List.set_cons_succ, Nat.zero_add, Nat.reduceAdd, Nat.reduceSub, ↓reduceIte, reduceCtorEq, String.reduceBEq, kb_NoneType_int, kb_NoneType_bool, kb_NoneType_str, kb_NoneType_tuple, kb_NoneType_list, kb_NoneType_dict, kb_bool_int, kb_bool_bool, kb_bool_str, kb_bool_tuple, kb_bool_list, kb_bool_dict, kb_int_int, kb_int_bool, kb_int_str, kb_int_tuple, kb_int_list, kb_int_dict, kb_str_int, kb_str_bool, kb_str_str, kb_str_tuple, kb_str_list, kb_str_dict, kb_list_int, kb_list_bool, kb_list_str, kb_list_tuple, kb_list_list, kb_list_dict, kb_tuple_int, kb_tuple_bool, kb_tuple_str, kb_tuple_tuple, kb_tuple_list, kb_tuple_dict, kb_dict_int, kb_dict_bool, kb_dict_str, kb_dict_tuple, kb_dict_list, kb_dict_dict, String.reduceEq, Int.reduceLT, Int.reduceLE, Int.reduceNeg, Int.reducePow, Nat.reducePow, Int.reduceToNat, Nat.reduceLT, Nat.reduceLeDiff, decide_true, decide_false, and_self, and_true, true_and, or_true, true_or, or_false, false_or, Bool.not_true, Bool.not_false, Bool.true_eq_false, Bool.false_eq_true, Option.map_some, Option.map_none, h1, List.take_length]
theorem sign_in2 {c : Nat} (h : c < 1114112) : SeqAt.shaped (.str ⟨#[c]⟩) = true ∧ PyData.canLayAll0 [.str "0", .str "1"] = true ∧ ([.str "0", .str "1"].any fun z => PyData.eqv z (.str ⟨#[c]⟩)) = (decide (c = 48) || decide (c = 49)) := by
  refine ⟨?_, by decide +kernel, ?_⟩
  · unfold SeqAt.shaped
    simp [PyData.canLay0, PyData.strOk, PyData.depth, h]
  · have e0 : ("0" : Str) = ⟨#[48]⟩ := by decide +kernel
    have e1 : ("1" : Str) = ⟨#[49]⟩ := by decide +kernel
    have q : ∀ a : Nat, ((⟨#[a]⟩ : Str) == ⟨#[c]⟩) = decide (c = a) := fun a => by
      by_cases h : c = a
      · subst h; simp
      · have : ¬ ((⟨#[a]⟩ : Str) = ⟨#[c]⟩) := fun z => h (by injection z with z; simpa using z.symm)
        simp [h, this]
    simp only [List.any_cons, List.any_nil, PyData.eqv, e0, e1, q, Bool.or_false]
def sgnD : D → D
  | .str s => .bool (match s.cps.toList with | [c] => (decide (c = 48) || decide (c = 49)) | _ => false)
  | d => d
theorem text_bad {t : Str} (hc : ∀ c ∈ tl t, c < 1114112) (hb : (tl t).all (fun c => decide (c = 48) || decide (c = 49)) = false) (hl : t.length ≤ 400) (μ : Mem) : F_is_beats [.d (.str t)] μ = .ok (.d (.bool false)) μ := by
  have h2 : (2 : Nat) ≤ sizeLine := by decide
  have hl2 : t.length ≤ sizeLine := nat_sizeLine (by omega)
  have hl3 : decide (((t.length : Nat) : Int) ≤ 400) = true := decide_eq_true (by omega)
  have hL : ∀ μ, cLc (iAny (cV 0)) [1] (gN 1) cYes (cBin (opIn false) (cV 1) (cH (cCall opTup (cCons (cK (.str "0")) (cCons (cK (.str "1")) cNil))))) [some (.d (.str t)), none] μ = .ok (.fl (((tl t).map fun c => (decide (c = 48) || decide (c = 49))).map .bool)) μ := fun μ => by
    have := cLc_map1 (ci := iAny (cV 0)) (own := [1]) (g := gN 1) (tt := cYes) (te := cBin (opIn false) (cV 1) (cH (cCall opTup (cCons (cK (.str "0")) (cCons (cK (.str "1")) cNil))))) (ρ := [some (.d (.str t)), none]) (μ := μ) (μ1 := μ) (ds := signsD t) sgnD (itm_txt _) (by simp only [cV_, cK_, cBin_, cCall_, cCons_, cNil_, cH_, cD_, cA_, cT_, cIf_, cAndT_, cOrT_, cNotT_, cAndV_, cOrV_, cNotV_, cChain_, cSl_, cPart_, cNoPart_, cMt_, cIsi_, cNeg_, cFn_, sNil_, sCons_, sIf_, sSet_, sPar_, sExpr_, sRet_, sRetN_, sRaise_, sBrk_, sCnt_, sStore_, fnOf_, iAny_, iR1_, iR2_, iEn_, gN_, gT_, gsN_, gsC_, stepS_, cYes_, lcF_, bT, iP, isTy, tyName, opTup, opLst, opAdd, opII, cDivB, opMul, opOrd, opEq, kD_nn, kD_ii, kD_bb, kD_ss, kD_ni, kD_nb, kD_ns, kD_in, kD_bn, kD_sn, kD_is, kD_si, kD_bs, kD_sb, kD_tuple1, kD_tuple2, kD_list1, kD_list2, kD_ib, kD_bi, opIsN, opIx, opSl, one, fLen, fInt, fAbs, fTup, fList, see, hold, toD, adopt, Rs.bind, Rs.thenS, opStore, expo, itmOf, wipeR, mAppend, mExtend, List.getElem?_cons_zero, List.getElem?_cons_succ, List.map_cons, List.map_nil, List.length_cons, List.length_nil, List.cons_append, List.nil_append, List.replicate_succ, List.replicate_zero, List.set_cons_zero, List.set_cons_succ, Nat.zero_add, Nat.reduceAdd, Nat.reduceSub, ↓reduceIte, reduceCtorEq, String.reduceBEq, kb_NoneType_int, kb_NoneType_bool, kb_NoneType_str, kb_NoneType_tuple, kb_NoneType_list, kb_NoneType_dict, kb_bool_int, kb_bool_bool, kb_bool_str, kb_bool_tuple, kb_bool_list, kb_bool_dict, kb_int_int, kb_int_bool, kb_int_str, kb_int_tuple, kb_int_list, kb_int_dict, kb_str_int, kb_str_bool, kb_str_str, kb_str_tuple, kb_str_list, kb_str_dict, kb_list_int, kb_list_bool, kb_list_str, kb_list_tuple, kb_list_list, kb_list_dict, kb_tuple_int, kb_tuple_bool, kb_tuple_str, kb_tuple_tuple, kb_tuple_list, kb_tuple_dict, kb_dict_int, kb_dict_bool, kb_dict_str, kb_dict_tuple, kb_dict_list, kb_dict_dict, String.reduceEq, Int.reduceLT, Int.reduceLE, Int.reduceNeg, Int.reducePow, Nat.reducePow, Int.reduceToNat, Nat.reduceLT, Nat.reduceLeDiff, decide_true, decide_false, and_self, and_true, true_and, or_true, true_or, or_false, false_or, Bool.not_true, Bool.not_false, Bool.true_eq_false, Bool.false_eq_true, Option.map_some, Option.map_none]) (nat_sizeLine (by simp [signsD]; have : t.cps.size = t.length := rfl; omega)) (fun d hd μ' _ => by
      obtain ⟨c, hcm, rfl⟩ := List.mem_map.mp hd
      obtain ⟨k1, k2, k3⟩ := sign_in2 (hc c hcm)
      simp only [cV_, cK_, cBin_, cCall_, cCons_, cNil_, cH_, cD_, cA_, cT_, cIf_, cAndT_, cOrT_, cNotT_, cAndV_, cOrV_, cNotV_, cChain_, cSl_, cPart_, cNoPart_, cMt_, cIsi_, cNeg_, cFn_, sNil_, sCons_, sIf_, sSet_, sPar_, sExpr_, sRet_, sRetN_, sRaise_, sBrk_, sCnt_, sStore_, fnOf_, iAny_, iR1_, iR2_, iEn_, gN_, gT_, gsN_, gsC_, stepS_, cYes_, lcF_, bT, iP, isTy, tyName, opTup, opLst, opAdd, opII, cDivB, opMul, opOrd, opEq, kD_nn, kD_ii, kD_bb, kD_ss, kD_ni, kD_nb, kD_ns, kD_in, kD_bn, kD_sn, kD_is, kD_si, kD_bs, kD_sb, kD_tuple1, kD_tuple2, kD_list1, kD_list2, kD_ib, kD_bi, opIsN, opIx, opSl, one, fLen, fInt, fAbs, fTup, fList, see, hold, toD, adopt, Rs.bind, Rs.thenS, opStore, expo, itmOf, wipeR, mAppend, mExtend, List.getElem?_cons_zero, List.getElem?_cons_succ, List.map_cons, List.map_nil, List.length_cons, List.length_nil, List.cons_append, List.nil_append, List.replicate_succ, List.replicate_zero, List.set_cons_zero, List.set_cons_succ, Nat.zero_add, Nat.reduceAdd, Nat.reduceSub, ↓reduceIte, reduceCtorEq, String.reduceBEq, kb_NoneType_int, kb_NoneType_bool, kb_NoneType_str, kb_NoneType_tuple, kb_NoneType_list, kb_NoneType_dict, kb_bool_int, kb_bool_bool, kb_bool_str, kb_bool_tuple, kb_bool_list, kb_bool_dict, kb_int_int, kb_int_bool, kb_int_str, kb_int_tuple, kb_int_list, kb_int_dict, kb_str_int, kb_str_bool, kb_str_str, kb_str_tuple, kb_str_list, kb_str_dict, kb_list_int, kb_list_bool, kb_list_str, kb_list_tuple, kb_list_list, kb_list_dict, kb_tuple_int, kb_tuple_bool, kb_tuple_str, kb_tuple_tuple, kb_tuple_list, kb_tuple_dict, kb_dict_int, kb_dict_bool, kb_dict_str, kb_dict_tuple, kb_dict_list, kb_dict_dict, String.reduceEq, Int.reduceLT, Int.reduceLE, Int.reduceNeg, Int.reducePow, Nat.reducePow, Int.reduceToNat, Nat.reduceLT, Nat.reduceLeDiff, decide_true, decide_false, and_self, and_true, true_and, or_true, true_or, or_false, false_or, Bool.not_true, Bool.not_false, Bool.true_eq_false, Bool.false_eq_true, Option.map_some, Option.map_none, List.mapM_cons, List.mapM_nil, Option.bind_eq_bind, Option.bind_some, Option.pure_def, if_pos h2, opIn, k1, k2, k3, sgnD])
    rw [this]
    unfold signsD
    rw [List.map_map, List.map_map]
    rfl
  have ha : ((tl t).map fun c => (decide (c = 48) || decide (c = 49))).all id = false := by rw [List.all_map]; exact hb
  simp only [F_is_beats, C_is_beats, cV_, cK_, cBin_, cCall_, cCons_, cNil_, cH_, cD_, cA_, cT_, cIf_, cAndT_, cOrT_, cNotT_, cAndV_, cOrV_, cNotV_, cChain_, cSl_, cPart_, cNoPart_, cMt_, cIsi_, cNeg_, cFn_, sNil_, sCons_, sIf_, sSet_, sPar_, sExpr_, sRet_, sRetN_, sRaise_, sBrk_, sCnt_, sStore_, fnOf_, iAny_, iR1_, iR2_, iEn_, gN_, gT_, gsN_, gsC_, stepS_, cYes_, lcF_, bT, iP, isTy, tyName, opTup, opLst, opAdd, opII, cDivB, opMul, opOrd, opEq, kD_nn, kD_ii, kD_bb, kD_ss, kD_ni, kD_nb, kD_ns, kD_in, kD_bn, kD_sn, kD_is, kD_si, kD_bs, kD_sb, kD_tuple1, kD_tuple2, kD_list1, kD_list2, kD_ib, kD_bi, opIsN, opIx, opSl, one, fLen, fInt, fAbs, fTup, fList, see, hold, toD, adopt, Rs.bind, Rs.thenS, opStore, expo, itmOf, wipeR, mAppend, mExtend, List.getElem?_cons_zero, List.getElem?_cons_succ, List.map_cons, List.map_nil, List.length_cons, List.length_nil, List.cons_append, List.nil_append, List.replicate_succ, List.replicate_zero, List.set_cons_zero, List.set_cons_succ, Nat.zero_add, Nat.reduceAdd, Nat.reduceSub, ↓reduceIte, reduceCtorEq, String.reduceBEq, kb_NoneType_int, kb_NoneType_bool, kb_NoneType_str, kb_NoneType_tuple, kb_NoneType_list, kb_NoneType_dict, kb_bool_int, kb_bool_bool, kb_bool_str, kb_bool_tuple, kb_bool_list, kb_bool_dict, kb_int_int, kb_int_bool, kb_int_str, kb_int_tuple, kb_int_list, kb_int_dict, kb_str_int, kb_str_bool, kb_str_str, kb_str_tuple, kb_str_list, kb_str_dict, kb_list_int, kb_list_bool, kb_list_str, kb_list_tuple, kb_list_list, kb_list_dict, kb_tuple_int, kb_tuple_bool, kb_tuple_str, kb_tuple_tuple, kb_tuple_list, kb_tuple_dict, kb_dict_int, kb_dict_bool, kb_dict_str, kb_dict_tuple, kb_dict_list, kb_dict_dict, String.reduceEq, Int.reduceLT, Int.reduceLE, Int.reduceNeg, Int.reducePow, Nat.reducePow, Int.reduceToNat, Nat.reduceLT, Nat.reduceLeDiff, decide_true, decide_false, and_self, and_true, true_and, or_true, true_or, or_false, false_or, Bool.not_true, Bool.not_false, Bool.true_eq_false, Bool.false_eq_true, Option.map_some, Option.map_none, if_pos hl2, hl3, hL, fBools, boolsOf_map, ha, List.take_length]
theorem code_bad {x : D} (h : ∀ μ, F_is_beats [.d x] μ = .ok (.d (.bool false)) μ) (μ : Mem) : F_code_by_beats [.d x] μ = .ex ⟨"NoText", none⟩ μ := by
  simp only [F_code_by_beats, C_code_by_beats, cV_, cK_, cBin_, cCall_, cCons_, cNil_, cH_, cD_, cA_, cT_, cIf_, cAndT_, cOrT_, cNotT_, cAndV_, cOrV_, cNotV_, cChain_, cSl_, cPart_, cNoPart_, cMt_, cIsi_, cNeg_, cFn_, sNil_, sCons_, sIf_, sSet_, sPar_, sExpr_, sRet_, sRetN_, sRaise_, sBrk_, sCnt_, sStore_, fnOf_, iAny_, iR1_, iR2_, iEn_, gN_, gT_, gsN_, gsC_, stepS_, cYes_, lcF_, bT, iP, isTy, tyName, opTup, opLst, opAdd, opII, cDivB, opMul, opOrd, opEq, kD_nn, kD_ii, kD_bb, kD_ss, kD_ni, kD_nb, kD_ns, kD_in, kD_bn, kD_sn, kD_is, kD_si, kD_bs, kD_sb, kD_tuple1, kD_tuple2, kD_list1, kD_list2, kD_ib, kD_bi, opIsN, opIx, opSl, one, fLen, fInt, fAbs, fTup, fList, see, hold, toD, adopt, Rs.bind, Rs.thenS, opStore, expo, itmOf, wipeR, mAppend, mExtend, List.getElem?_cons_zero, List.getElem?_cons_succ, List.map_cons, List.map_nil, List.length_cons, List.length_nil, List.cons_append, List.nil_append, List.replicate_succ, List.replicate_zero, List.set_cons_zero, List.set_cons_succ, Nat.zero_add, Nat.reduceAdd, Nat.reduceSub, ↓reduceIte, reduceCtorEq, String.reduceBEq, kb_NoneType_int, kb_NoneType_bool, kb_NoneType_str, kb_NoneType_tuple, kb_NoneType_list, kb_NoneType_dict, kb_bool_int, kb_bool_bool, kb_bool_str, kb_bool_tuple, kb_bool_list, kb_bool_dict, kb_int_int, kb_int_bool, kb_int_str, kb_int_tuple, kb_int_list, kb_int_dict, kb_str_int, kb_str_bool, kb_str_str, kb_str_tuple, kb_str_list, kb_str_dict, kb_list_int, kb_list_bool, kb_list_str, kb_list_tuple, kb_list_list, kb_list_dict, kb_tuple_int, kb_tuple_bool, kb_tuple_str, kb_tuple_tuple, kb_tuple_list, kb_tuple_dict, kb_dict_int, kb_dict_bool, kb_dict_str, kb_dict_tuple, kb_dict_list, kb_dict_dict, String.reduceEq, Int.reduceLT, Int.reduceLE, Int.reduceNeg, Int.reducePow, Nat.reducePow, Int.reduceToNat, Nat.reduceLT, Nat.reduceLeDiff, decide_true, decide_false, and_self, and_true, true_and, or_true, true_or, or_false, false_or, Bool.not_true, Bool.not_false, Bool.true_eq_false, Bool.false_eq_true, Option.map_some, Option.map_none, h, List.take_length]
theorem sub1 : sub "NoCode" "NoCode" = some true := by decide +kernel
theorem sub2 : sub "NoText" "NoCode" = some false := by decide +kernel
theorem sub3 : sub "NoText" "NoText" = some true := by decide +kernel
theorem word_code {th : Mem → Rs R} {μ : Mem} (h : th μ = .ex ⟨"NoCode", none⟩ μ) : P__law_word_of th μ = .ok (.d (.str "code")) μ := by
  simp only [P__law_word_of, B__law_word_of, N__law_word_of, cV_, cK_, cBin_, cCall_, cCons_, cNil_, cH_, cD_, cA_, cT_, cIf_, cAndT_, cOrT_, cNotT_, cAndV_, cOrV_, cNotV_, cChain_, cSl_, cPart_, cNoPart_, cMt_, cIsi_, cNeg_, cFn_, sNil_, sCons_, sIf_, sSet_, sPar_, sExpr_, sRet_, sRetN_, sRaise_, sBrk_, sCnt_, sStore_, fnOf_, iAny_, iR1_, iR2_, iEn_, gN_, gT_, gsN_, gsC_, stepS_, cYes_, lcF_, bT, iP, isTy, tyName, opTup, opLst, opAdd, opII, cDivB, opMul, opOrd, opEq, kD_nn, kD_ii, kD_bb, kD_ss, kD_ni, kD_nb, kD_ns, kD_in, kD_bn, kD_sn, kD_is, kD_si, kD_bs, kD_sb, kD_tuple1, kD_tuple2, kD_list1, kD_list2, kD_ib, kD_bi, opIsN, opIx, opSl, one, fLen, fInt, fAbs, fTup, fList, see, hold, toD, adopt, Rs.bind, Rs.thenS, opStore, expo, itmOf, wipeR, mAppend, mExtend, List.getElem?_cons_zero, List.getElem?_cons_succ, List.map_cons, List.map_nil, List.length_cons, List.length_nil, List.cons_append, List.nil_append, List.replicate_succ, List.replicate_zero, List.set_cons_zero, List.set_cons_succ, Nat.zero_add, Nat.reduceAdd, Nat.reduceSub, ↓reduceIte, reduceCtorEq, String.reduceBEq, kb_NoneType_int, kb_NoneType_bool, kb_NoneType_str, kb_NoneType_tuple, kb_NoneType_list, kb_NoneType_dict, kb_bool_int, kb_bool_bool, kb_bool_str, kb_bool_tuple, kb_bool_list, kb_bool_dict, kb_int_int, kb_int_bool, kb_int_str, kb_int_tuple, kb_int_list, kb_int_dict, kb_str_int, kb_str_bool, kb_str_str, kb_str_tuple, kb_str_list, kb_str_dict, kb_list_int, kb_list_bool, kb_list_str, kb_list_tuple, kb_list_list, kb_list_dict, kb_tuple_int, kb_tuple_bool, kb_tuple_str, kb_tuple_tuple, kb_tuple_list, kb_tuple_dict, kb_dict_int, kb_dict_bool, kb_dict_str, kb_dict_tuple, kb_dict_list, kb_dict_dict, String.reduceEq, Int.reduceLT, Int.reduceLE, Int.reduceNeg, Int.reducePow, Nat.reducePow, Int.reduceToNat, Nat.reduceLT, Nat.reduceLeDiff, decide_true, decide_false, and_self, and_true, true_and, or_true, true_or, or_false, false_or, Bool.not_true, Bool.not_false, Bool.true_eq_false, Bool.false_eq_true, Option.map_some, Option.map_none, sTry, cThunk, h, pick, sub1, noX, List.take_length]
theorem word_text {th : Mem → Rs R} {μ : Mem} (h : th μ = .ex ⟨"NoText", none⟩ μ) : P__law_word_of th μ = .ok (.d (.str "text")) μ := by
  simp only [P__law_word_of, B__law_word_of, N__law_word_of, cV_, cK_, cBin_, cCall_, cCons_, cNil_, cH_, cD_, cA_, cT_, cIf_, cAndT_, cOrT_, cNotT_, cAndV_, cOrV_, cNotV_, cChain_, cSl_, cPart_, cNoPart_, cMt_, cIsi_, cNeg_, cFn_, sNil_, sCons_, sIf_, sSet_, sPar_, sExpr_, sRet_, sRetN_, sRaise_, sBrk_, sCnt_, sStore_, fnOf_, iAny_, iR1_, iR2_, iEn_, gN_, gT_, gsN_, gsC_, stepS_, cYes_, lcF_, bT, iP, isTy, tyName, opTup, opLst, opAdd, opII, cDivB, opMul, opOrd, opEq, kD_nn, kD_ii, kD_bb, kD_ss, kD_ni, kD_nb, kD_ns, kD_in, kD_bn, kD_sn, kD_is, kD_si, kD_bs, kD_sb, kD_tuple1, kD_tuple2, kD_list1, kD_list2, kD_ib, kD_bi, opIsN, opIx, opSl, one, fLen, fInt, fAbs, fTup, fList, see, hold, toD, adopt, Rs.bind, Rs.thenS, opStore, expo, itmOf, wipeR, mAppend, mExtend, List.getElem?_cons_zero, List.getElem?_cons_succ, List.map_cons, List.map_nil, List.length_cons, List.length_nil, List.cons_append, List.nil_append, List.replicate_succ, List.replicate_zero, List.set_cons_zero, List.set_cons_succ, Nat.zero_add, Nat.reduceAdd, Nat.reduceSub, ↓reduceIte, reduceCtorEq, String.reduceBEq, kb_NoneType_int, kb_NoneType_bool, kb_NoneType_str, kb_NoneType_tuple, kb_NoneType_list, kb_NoneType_dict, kb_bool_int, kb_bool_bool, kb_bool_str, kb_bool_tuple, kb_bool_list, kb_bool_dict, kb_int_int, kb_int_bool, kb_int_str, kb_int_tuple, kb_int_list, kb_int_dict, kb_str_int, kb_str_bool, kb_str_str, kb_str_tuple, kb_str_list, kb_str_dict, kb_list_int, kb_list_bool, kb_list_str, kb_list_tuple, kb_list_list, kb_list_dict, kb_tuple_int, kb_tuple_bool, kb_tuple_str, kb_tuple_tuple, kb_tuple_list, kb_tuple_dict, kb_dict_int, kb_dict_bool, kb_dict_str, kb_dict_tuple, kb_dict_list, kb_dict_dict, String.reduceEq, Int.reduceLT, Int.reduceLE, Int.reduceNeg, Int.reducePow, Nat.reducePow, Int.reduceToNat, Nat.reduceLT, Nat.reduceLeDiff, decide_true, decide_false, and_self, and_true, true_and, or_true, true_or, or_false, false_or, Bool.not_true, Bool.not_false, Bool.true_eq_false, Bool.false_eq_true, Option.map_some, Option.map_none, sTry, cThunk, h, pick, sub2, sub3, noX, List.take_length]
def badCodes : List D := [.none, .tuple [], .tuple [.int 0], .tuple [.int 10], .list [.int 1], .tuple [.int 1, .int 1, .int 1, .int 1, .int 1], .tuple [.bool true], .str "1", .int 0, .tuple [.none]]
theorem badCodes_bad {x : D} (h : x ∈ badCodes) (μ : Mem) : F_beats_of [.d x] μ = .ex ⟨"NoCode", none⟩ μ := by
  have key : noDict x = true ∧ (∀ xs, x = .tuple xs → xs.length ≤ 1000 ∧ ∀ y ∈ xs, noDict y = true) ∧ codeB x = false := by
    simp only [badCodes, List.mem_cons, List.not_mem_nil, or_false] at h
    rcases h with rfl | rfl | rfl | rfl | rfl | rfl | rfl | rfl | rfl | rfl <;> refine ⟨rfl, fun xs e => ?_, ?_⟩ <;> first | (cases e; done) | (cases e; refine ⟨by decide, fun y hy => ?_⟩; simp at hy <;> (try subst hy) <;> rfl) | decide
  exact beats_of_bad key.1 key.2.1 key.2.2 μ
def badTexts : List D := [.none, .int 0, .str "2", .str "1 0", .list [.str "1", .str "0"], .str (strRep "10" 201), .tuple [.str "10"], .str "1O"]
theorem badTexts_bad {x : D} (h : x ∈ badTexts) (μ : Mem) : F_code_by_beats [.d x] μ = .ex ⟨"NoText", none⟩ μ := by
  refine code_bad (fun μ => ?_) μ
  have other : ∀ y : D, (match y with | .str _ => false | .dict _ => false | _ => true) = true → F_is_beats [.d y] μ = .ok (.d (.bool false)) μ := fun y hy => by
    cases y <;> first | (simp only [F_is_beats, C_is_beats, cV_, cK_, cBin_, cCall_, cCons_, cNil_, cH_, cD_, cA_, cT_, cIf_, cAndT_, cOrT_, cNotT_, cAndV_, cOrV_, cNotV_, cChain_, cSl_, cPart_, cNoPart_, cMt_, cIsi_, cNeg_, cFn_, sNil_, sCons_, sIf_, sSet_, sPar_, sExpr_, sRet_, sRetN_, sRaise_, sBrk_, sCnt_, sStore_, fnOf_, iAny_, iR1_, iR2_, iEn_, gN_, gT_, gsN_, gsC_, stepS_, cYes_, lcF_, bT, iP, isTy, tyName, opTup, opLst, opAdd, opII, cDivB, opMul, opOrd, opEq, kD_nn, kD_ii, kD_bb, kD_ss, kD_ni, kD_nb, kD_ns, kD_in, kD_bn, kD_sn, kD_is, kD_si, kD_bs, kD_sb, kD_tuple1, kD_tuple2, kD_list1, kD_list2, kD_ib, kD_bi, opIsN, opIx, opSl, one, fLen, fInt, fAbs, fTup, fList, see, hold, toD, adopt, Rs.bind, Rs.thenS, opStore, expo, itmOf, wipeR, mAppend, mExtend, List.getElem?_cons_zero, List.getElem?_cons_succ, List.map_cons, List.map_nil, List.length_cons, List.length_nil, List.cons_append, List.nil_append, List.replicate_succ, List.replicate_zero, List.set_cons_zero, List.set_cons_succ, Nat.zero_add, Nat.reduceAdd, Nat.reduceSub, ↓reduceIte, reduceCtorEq, String.reduceBEq, kb_NoneType_int, kb_NoneType_bool, kb_NoneType_str, kb_NoneType_tuple, kb_NoneType_list, kb_NoneType_dict, kb_bool_int, kb_bool_bool, kb_bool_str, kb_bool_tuple, kb_bool_list, kb_bool_dict, kb_int_int, kb_int_bool, kb_int_str, kb_int_tuple, kb_int_list, kb_int_dict, kb_str_int, kb_str_bool, kb_str_str, kb_str_tuple, kb_str_list, kb_str_dict, kb_list_int, kb_list_bool, kb_list_str, kb_list_tuple, kb_list_list, kb_list_dict, kb_tuple_int, kb_tuple_bool, kb_tuple_str, kb_tuple_tuple, kb_tuple_list, kb_tuple_dict, kb_dict_int, kb_dict_bool, kb_dict_str, kb_dict_tuple, kb_dict_list, kb_dict_dict, String.reduceEq, Int.reduceLT, Int.reduceLE, Int.reduceNeg, Int.reducePow, Nat.reducePow, Int.reduceToNat, Nat.reduceLT, Nat.reduceLeDiff, decide_true, decide_false, and_self, and_true, true_and, or_true, true_or, or_false, false_or, Bool.not_true, Bool.not_false, Bool.true_eq_false, Bool.false_eq_true, Option.map_some, Option.map_none, List.take_length]; done) | (simp at hy)
  simp only [badTexts, List.mem_cons, List.not_mem_nil, or_false] at h
  rcases h with rfl | rfl | rfl | rfl | rfl | rfl | rfl | rfl
  · exact other _ rfl
  · exact other _ rfl
  · exact text_bad (by decide +kernel) (by decide +kernel) (by decide +kernel) μ
  · exact text_bad (by decide +kernel) (by decide +kernel) (by decide +kernel) μ
  · exact other _ rfl
  · have hl : (strRep "10" 201).length = 402 := strRep_len 201
    have hl2 : (strRep "10" 201).length ≤ sizeLine := nat_sizeLine (by omega)
    have hl3 : decide ((((strRep "10" 201).length : Nat) : Int) ≤ 400) = false := decide_eq_false (by omega)
    simp only [F_is_beats, C_is_beats, cV_, cK_, cBin_, cCall_, cCons_, cNil_, cH_, cD_, cA_, cT_, cIf_, cAndT_, cOrT_, cNotT_, cAndV_, cOrV_, cNotV_, cChain_, cSl_, cPart_, cNoPart_, cMt_, cIsi_, cNeg_, cFn_, sNil_, sCons_, sIf_, sSet_, sPar_, sExpr_, sRet_, sRetN_, sRaise_, sBrk_, sCnt_, sStore_, fnOf_, iAny_, iR1_, iR2_, iEn_, gN_, gT_, gsN_, gsC_, stepS_, cYes_, lcF_, bT, iP, isTy, tyName, opTup, opLst, opAdd, opII, cDivB, opMul, opOrd, opEq, kD_nn, kD_ii, kD_bb, kD_ss, kD_ni, kD_nb, kD_ns, kD_in, kD_bn, kD_sn, kD_is, kD_si, kD_bs, kD_sb, kD_tuple1, kD_tuple2, kD_list1, kD_list2, kD_ib, kD_bi, opIsN, opIx, opSl, one, fLen, fInt, fAbs, fTup, fList, see, hold, toD, adopt, Rs.bind, Rs.thenS, opStore, expo, itmOf, wipeR, mAppend, mExtend, List.getElem?_cons_zero, List.getElem?_cons_succ, List.map_cons, List.map_nil, List.length_cons, List.length_nil, List.cons_append, List.nil_append, List.replicate_succ, List.replicate_zero, List.set_cons_zero, List.set_cons_succ, Nat.zero_add, Nat.reduceAdd, Nat.reduceSub, ↓reduceIte, reduceCtorEq, String.reduceBEq, kb_NoneType_int, kb_NoneType_bool, kb_NoneType_str, kb_NoneType_tuple, kb_NoneType_list, kb_NoneType_dict, kb_bool_int, kb_bool_bool, kb_bool_str, kb_bool_tuple, kb_bool_list, kb_bool_dict, kb_int_int, kb_int_bool, kb_int_str, kb_int_tuple, kb_int_list, kb_int_dict, kb_str_int, kb_str_bool, kb_str_str, kb_str_tuple, kb_str_list, kb_str_dict, kb_list_int, kb_list_bool, kb_list_str, kb_list_tuple, kb_list_list, kb_list_dict, kb_tuple_int, kb_tuple_bool, kb_tuple_str, kb_tuple_tuple, kb_tuple_list, kb_tuple_dict, kb_dict_int, kb_dict_bool, kb_dict_str, kb_dict_tuple, kb_dict_list, kb_dict_dict, String.reduceEq, Int.reduceLT, Int.reduceLE, Int.reduceNeg, Int.reducePow, Nat.reducePow, Int.reduceToNat, Nat.reduceLT, Nat.reduceLeDiff, decide_true, decide_false, and_self, and_true, true_and, or_true, true_or, or_false, false_or, Bool.not_true, Bool.not_false, Bool.true_eq_false, Bool.false_eq_true, Option.map_some, Option.map_none, if_pos hl2, hl3, List.take_length]
  · exact other _ rfl
  · exact text_bad (by decide +kernel) (by decide +kernel) (by decide +kernel) μ
end L52
set_option maxRecDepth 100000
set_option maxHeartbeats 1000000
namespace L52
open PySem PySem.Spec PyProof.Rows L2 Em
open TL (tl)
theorem sCons_nx {a b : SC} {ρ ρ' : Vr} {μ μ' : Mem} (h : a ρ μ = .nx ρ' μ') : sCons a b ρ μ = b ρ' μ' := by rw [sCons_, h]
theorem cLam_ (ψ : (Mem → Rs R) → Mem → Rs R) (cb : EC) (ρ : Vr) (μ : Mem) : cLam ψ cb ρ μ = (match ψ (fun μ' => cb ρ μ') μ with | .ok r μ' => .ok r μ' | _ => .no) := rfl
def s3 : SC := (sSet 3 (cH (cCall (one fTup) (cCons (cH (cLc (iR1 (cH (cBin opAdd (cK (.int 1)) (cH (cFn 2 F__law_draw (cCons (cV 1) (cCons (cK (.int 4)) cNil))))))) [12] (gN 12) cYes (cBin opAdd (cK (.int 1)) (cH (cFn 2 F__law_draw (cCons (cV 1) (cCons (cK (.int 9)) cNil))))))) cNil))))
theorem s3_run {x0 z2 z3 z4 z5 z6 z7 z8 z9 z10 z11 z12 : Option R} {μ : Mem} (h : HM μ) : ∃ cs μ', s3 [x0, some (.c 0), z2, z3, z4, z5, z6, z7, z8, z9, z10, z11, z12] μ = .nx [x0, some (.c 0), z2, some (.d (codeD cs)), z4, z5, z6, z7, z8, z9, z10, z11, z12] μ' ∧ HM μ' ∧ isCode cs = true := by
  obtain ⟨r, μ1, e1, h1, _, r0, r1⟩ := draw_hm (m := 4) h (by decide) (by decide) []
  simp only [List.append_nil] at e1
  have hr : -(2 ^ 62 : Int) ≤ 1 + r ∧ 1 + r < 2 ^ 62 := by omega
  have hci : iR1 (cH (cBin opAdd (cK (.int 1)) (cH (cFn 2 F__law_draw (cCons (cV 1) (cCons (cK (.int 4)) cNil)))))) [x0, some (.c 0), z2, z3, z4, z5, z6, z7, z8, z9, z10, z11, z12] μ = .ok (.rng 0 1 (1 + r).toNat) μ1 := by
    simp only [cV_, cK_, cBin_, cCall_, cCons_, cNil_, cH_, cD_, cA_, cT_, cIf_, cAndT_, cOrT_, cNotT_, cAndV_, cOrV_, cNotV_, cChain_, cSl_, cPart_, cNoPart_, cMt_, cIsi_, cNeg_, cFn_, sNil_, sCons_, sIf_, sSet_, sPar_, sExpr_, sRet_, sRetN_, sRaise_, sBrk_, sCnt_, sStore_, fnOf_, iAny_, iR1_, iR2_, iEn_, gN_, gT_, gsN_, gsC_, stepS_, cYes_, lcF_, bT, iP, isTy, tyName, opTup, opLst, opAdd, opII, cDivB, opMul, opOrd, opEq, kD_nn, kD_ii, kD_bb, kD_ss, kD_ni, kD_nb, kD_ns, kD_in, kD_bn, kD_sn, kD_is, kD_si, kD_bs, kD_sb, kD_tuple1, kD_tuple2, kD_list1, kD_list2, kD_ib, kD_bi, opIsN, opIx, opSl, one, fLen, fInt, fAbs, fTup, fList, see, hold, toD, adopt, Rs.bind, Rs.thenS, opStore, expo, itmOf, wipeR, mAppend, mExtend, List.getElem?_cons_zero, List.getElem?_cons_succ, List.map_cons, List.map_nil, List.length_cons, List.length_nil, List.cons_append, List.nil_append, List.replicate_succ, List.replicate_zero, List.set_cons_zero, List.set_cons_succ, Nat.zero_add, Nat.reduceAdd, Nat.reduceSub, ↓reduceIte, reduceCtorEq, String.reduceBEq, kb_NoneType_int, kb_NoneType_bool, kb_NoneType_str, kb_NoneType_tuple, kb_NoneType_list, kb_NoneType_dict, kb_bool_int, kb_bool_bool, kb_bool_str, kb_bool_tuple, kb_bool_list, kb_bool_dict, kb_int_int, kb_int_bool, kb_int_str, kb_int_tuple, kb_int_list, kb_int_dict, kb_str_int, kb_str_bool, kb_str_str, kb_str_tuple, kb_str_list, kb_str_dict, kb_list_int, kb_list_bool, kb_list_str, kb_list_tuple, kb_list_list, kb_list_dict, kb_tuple_int, kb_tuple_bool, kb_tuple_str, kb_tuple_tuple, kb_tuple_list, kb_tuple_dict, kb_dict_int, kb_dict_bool, kb_dict_str, kb_dict_tuple, kb_dict_list, kb_dict_dict, String.reduceEq, Int.reduceLT, Int.reduceLE, Int.reduceNeg, Int.reducePow, Nat.reducePow, Int.reduceToNat, Nat.reduceLT, Nat.reduceLeDiff, decide_true, decide_false, and_self, and_true, true_and, or_true, true_or, or_false, false_or, Bool.not_true, Bool.not_false, Bool.true_eq_false, Bool.false_eq_true, Option.map_some, Option.map_none, e1]
    rw [if_pos]
    simpa using hr
  obtain ⟨acc, μ', e2, hl, hl2, hI⟩ := cLc_post (own := [12]) (g := gN 12) (tt := cYes) (te := cBin opAdd (cK (.int 1)) (cH (cFn 2 F__law_draw (cCons (cV 1) (cCons (cK (.int 9)) cNil))))) (itm_rng 0 (1 + r).toNat) hci (nat_sizeLine (by simp [rngD]; omega)) (fun i acc μ => HM μ ∧ ∃ cs : List Nat, acc = cs.map (fun (c : Nat) => PyData.int (c : Int)) ∧ cs.length = i ∧ ∀ c ∈ cs, 1 ≤ c ∧ c ≤ 9) (fun i d acc μ2 hd hm hI => by
    obtain ⟨hM, cs, rfl, hlen, hall⟩ := hI
    obtain ⟨r', μ3, e3, h3, hl3, q0, q1⟩ := draw_hm (m := 9) hM (by decide) (by decide) [.lst (cs.map (fun (c : Nat) => PyData.int (c : Int)))]
    refine ⟨some (.int (1 + r')), μ3, ?_, by omega, h3, cs ++ [(1 + r').toNat], ?_, by simp; omega, fun c hc => ?_⟩
    · simp only [cV_, cK_, cBin_, cCall_, cCons_, cNil_, cH_, cD_, cA_, cT_, cIf_, cAndT_, cOrT_, cNotT_, cAndV_, cOrV_, cNotV_, cChain_, cSl_, cPart_, cNoPart_, cMt_, cIsi_, cNeg_, cFn_, sNil_, sCons_, sIf_, sSet_, sPar_, sExpr_, sRet_, sRetN_, sRaise_, sBrk_, sCnt_, sStore_, fnOf_, iAny_, iR1_, iR2_, iEn_, gN_, gT_, gsN_, gsC_, stepS_, cYes_, lcF_, bT, iP, isTy, tyName, opTup, opLst, opAdd, opII, cDivB, opMul, opOrd, opEq, kD_nn, kD_ii, kD_bb, kD_ss, kD_ni, kD_nb, kD_ns, kD_in, kD_bn, kD_sn, kD_is, kD_si, kD_bs, kD_sb, kD_tuple1, kD_tuple2, kD_list1, kD_list2, kD_ib, kD_bi, opIsN, opIx, opSl, one, fLen, fInt, fAbs, fTup, fList, see, hold, toD, adopt, Rs.bind, Rs.thenS, opStore, expo, itmOf, wipeR, mAppend, mExtend, List.getElem?_cons_zero, List.getElem?_cons_succ, List.map_cons, List.map_nil, List.length_cons, List.length_nil, List.cons_append, List.nil_append, List.replicate_succ, List.replicate_zero, List.set_cons_zero, List.set_cons_succ, Nat.zero_add, Nat.reduceAdd, Nat.reduceSub, ↓reduceIte, reduceCtorEq, String.reduceBEq, kb_NoneType_int, kb_NoneType_bool, kb_NoneType_str, kb_NoneType_tuple, kb_NoneType_list, kb_NoneType_dict, kb_bool_int, kb_bool_bool, kb_bool_str, kb_bool_tuple, kb_bool_list, kb_bool_dict, kb_int_int, kb_int_bool, kb_int_str, kb_int_tuple, kb_int_list, kb_int_dict, kb_str_int, kb_str_bool, kb_str_str, kb_str_tuple, kb_str_list, kb_str_dict, kb_list_int, kb_list_bool, kb_list_str, kb_list_tuple, kb_list_list, kb_list_dict, kb_tuple_int, kb_tuple_bool, kb_tuple_str, kb_tuple_tuple, kb_tuple_list, kb_tuple_dict, kb_dict_int, kb_dict_bool, kb_dict_str, kb_dict_tuple, kb_dict_list, kb_dict_dict, String.reduceEq, Int.reduceLT, Int.reduceLE, Int.reduceNeg, Int.reducePow, Nat.reducePow, Int.reduceToNat, Nat.reduceLT, Nat.reduceLeDiff, decide_true, decide_false, and_self, and_true, true_and, or_true, true_or, or_false, false_or, Bool.not_true, Bool.not_false, Bool.true_eq_false, Bool.false_eq_true, Option.map_some, Option.map_none, e3]
    · simp; omega
    · rcases List.mem_append.mp hc with hc | hc
      · exact hall c hc
      · simp at hc; omega) ⟨h1, [], rfl, rfl, by simp⟩
  obtain ⟨hM, cs, rfl, hlen, hall⟩ := hI
  refine ⟨cs, μ', ?_, hM, ?_⟩
  · simp only [s3, cV_, cK_, cBin_, cCall_, cCons_, cNil_, cH_, cD_, cA_, cT_, cIf_, cAndT_, cOrT_, cNotT_, cAndV_, cOrV_, cNotV_, cChain_, cSl_, cPart_, cNoPart_, cMt_, cIsi_, cNeg_, cFn_, sNil_, sCons_, sIf_, sSet_, sPar_, sExpr_, sRet_, sRetN_, sRaise_, sBrk_, sCnt_, sStore_, fnOf_, iAny_, iR1_, iR2_, iEn_, gN_, gT_, gsN_, gsC_, stepS_, cYes_, lcF_, bT, iP, isTy, tyName, opTup, opLst, opAdd, opII, cDivB, opMul, opOrd, opEq, kD_nn, kD_ii, kD_bb, kD_ss, kD_ni, kD_nb, kD_ns, kD_in, kD_bn, kD_sn, kD_is, kD_si, kD_bs, kD_sb, kD_tuple1, kD_tuple2, kD_list1, kD_list2, kD_ib, kD_bi, opIsN, opIx, opSl, one, fLen, fInt, fAbs, fTup, fList, see, hold, toD, adopt, Rs.bind, Rs.thenS, opStore, expo, itmOf, wipeR, mAppend, mExtend, List.getElem?_cons_zero, List.getElem?_cons_succ, List.map_cons, List.map_nil, List.length_cons, List.length_nil, List.cons_append, List.nil_append, List.replicate_succ, List.replicate_zero, List.set_cons_zero, List.set_cons_succ, Nat.zero_add, Nat.reduceAdd, Nat.reduceSub, ↓reduceIte, reduceCtorEq, String.reduceBEq, kb_NoneType_int, kb_NoneType_bool, kb_NoneType_str, kb_NoneType_tuple, kb_NoneType_list, kb_NoneType_dict, kb_bool_int, kb_bool_bool, kb_bool_str, kb_bool_tuple, kb_bool_list, kb_bool_dict, kb_int_int, kb_int_bool, kb_int_str, kb_int_tuple, kb_int_list, kb_int_dict, kb_str_int, kb_str_bool, kb_str_str, kb_str_tuple, kb_str_list, kb_str_dict, kb_list_int, kb_list_bool, kb_list_str, kb_list_tuple, kb_list_list, kb_list_dict, kb_tuple_int, kb_tuple_bool, kb_tuple_str, kb_tuple_tuple, kb_tuple_list, kb_tuple_dict, kb_dict_int, kb_dict_bool, kb_dict_str, kb_dict_tuple, kb_dict_list, kb_dict_dict, String.reduceEq, Int.reduceLT, Int.reduceLE, Int.reduceNeg, Int.reducePow, Nat.reducePow, Int.reduceToNat, Nat.reduceLT, Nat.reduceLeDiff, decide_true, decide_false, and_self, and_true, true_and, or_true, true_or, or_false, false_or, Bool.not_true, Bool.not_false, Bool.true_eq_false, Bool.false_eq_true, Option.map_some, Option.map_none, e2, codeD]
  · unfold isCode
    simp only [Bool.and_eq_true, decide_eq_true_eq, List.all_eq_true]
    refine ⟨?_, hall⟩
    simp [rngD] at hlen
    omega
theorem eqv_codeD (cs : List Nat) : PyData.eqv (codeD cs) (codeD cs) = true ∧ SeqAt.shaped (codeD cs) = true := by
  unfold codeD SeqAt.shaped
  refine ⟨?_, ?_⟩
  · rw [PyData.eqv]
    induction cs with
    | nil => rfl
    | cons c cs ih => rw [List.map_cons, PyData.eqvAll, ih]; simp [PyData.eqv]
  · have h1 : PyData.canLayAll0 (cs.map fun (c : Nat) => PyData.int (c : Int)) = true := by
      induction cs with
      | nil => rfl
      | cons c cs ih => rw [List.map_cons, PyData.canLayAll0, ih]; rfl
    have h2 : PyData.depthAll (cs.map fun (c : Nat) => PyData.int (c : Int)) = 0 := by
      have := depth_ints (cs.map fun (c : Nat) => (c : Int))
      rw [List.map_map] at this
      exact this
    simp [PyData.canLay0, h1, PyData.depth, h2]
theorem len_pos {cs : List Nat} (h : isCode cs = true) : 0 < (bS cs).length := by
  unfold isCode at h
  simp only [Bool.and_eq_true, decide_eq_true_eq, List.all_eq_true] at h
  cases cs with
  | nil => simp at h
  | cons c cs =>
    have := h.2 c (by simp)
    rw [TL.len_tl, tl_bS]
    cases cs with
    | nil => show 0 < (rep c).length; rw [rep_len]; omega
    | cons d r =>
      have e : bL (c :: d :: r) = rep c ++ ([48, 48] ++ bL (d :: r)) := rfl
      rw [e, List.length_append, rep_len]
      omega
def s45 (k : SC) : SC := (sCons (sSet 4 (cH (cFn 1 F__law_beats (cCons (cV 3) cNil))))
  (sCons (sIf (cOrT (cT (cBin (opEq true) (cH (cFn 1 F_beats_of (cCons (cV 3) cNil))) (cV 4))) (cT (cBin (opEq true) (cH (cFn 1 F_code_by_beats (cCons (cV 4) cNil))) (cV 3))))
  (sRet (cK (.bool false)))
  sNil) k))
theorem s45_run {k : SC} {cs : List Nat} (hc : isCode cs = true) {x0 x1 z2 z4 z5 z6 z7 z8 z9 z10 z11 z12 : Option R} {μ : Mem} : s45 k [x0, x1, z2, some (.d (codeD cs)), z4, z5, z6, z7, z8, z9, z10, z11, z12] μ = k [x0, x1, z2, some (.d (codeD cs)), some (.d (.str (bS cs))), z5, z6, z7, z8, z9, z10, z11, z12] μ := by
  have h := hc
  unfold isCode at h
  simp only [Bool.and_eq_true, decide_eq_true_eq, List.all_eq_true] at h
  have h1 := fun μ => (beats_ok (cs := cs) (by omega) (fun c h' => by have := h.2 c h'; omega) μ).2
  have h2 := beats_of_ok hc
  have h3 := code_ok (bits_bS cs) (by have := len_bS (fun c h' => (h.2 c h').2) (by omega : cs.length ≤ 4); omega)
  rw [readD_bS hc] at h3
  obtain ⟨q1, q2⟩ := eqv_codeD cs
  have q3 : ∀ s : Str, (s == s) = true := fun s => beq_self_eq_true s
  have q4 : kinD (codeD cs) (codeD cs) = true ∨ (SeqAt.shaped (codeD cs) = true ∧ SeqAt.shaped (codeD cs) = true) := .inr ⟨q2, q2⟩
  simp only [s45, cV_, cK_, cBin_, cCall_, cCons_, cNil_, cH_, cD_, cA_, cT_, cIf_, cAndT_, cOrT_, cNotT_, cAndV_, cOrV_, cNotV_, cChain_, cSl_, cPart_, cNoPart_, cMt_, cIsi_, cNeg_, cFn_, sNil_, sCons_, sIf_, sSet_, sPar_, sExpr_, sRet_, sRetN_, sRaise_, sBrk_, sCnt_, sStore_, fnOf_, iAny_, iR1_, iR2_, iEn_, gN_, gT_, gsN_, gsC_, stepS_, cYes_, lcF_, bT, iP, isTy, tyName, opTup, opLst, opAdd, opII, cDivB, opMul, opOrd, opEq, kD_nn, kD_ii, kD_bb, kD_ss, kD_ni, kD_nb, kD_ns, kD_in, kD_bn, kD_sn, kD_is, kD_si, kD_bs, kD_sb, kD_tuple1, kD_tuple2, kD_list1, kD_list2, kD_ib, kD_bi, opIsN, opIx, opSl, one, fLen, fInt, fAbs, fTup, fList, see, hold, toD, adopt, Rs.bind, Rs.thenS, opStore, expo, itmOf, wipeR, mAppend, mExtend, List.getElem?_cons_zero, List.getElem?_cons_succ, List.map_cons, List.map_nil, List.length_cons, List.length_nil, List.cons_append, List.nil_append, List.replicate_succ, List.replicate_zero, List.set_cons_zero, List.set_cons_succ, Nat.zero_add, Nat.reduceAdd, Nat.reduceSub, ↓reduceIte, reduceCtorEq, String.reduceBEq, kb_NoneType_int, kb_NoneType_bool, kb_NoneType_str, kb_NoneType_tuple, kb_NoneType_list, kb_NoneType_dict, kb_bool_int, kb_bool_bool, kb_bool_str, kb_bool_tuple, kb_bool_list, kb_bool_dict, kb_int_int, kb_int_bool, kb_int_str, kb_int_tuple, kb_int_list, kb_int_dict, kb_str_int, kb_str_bool, kb_str_str, kb_str_tuple, kb_str_list, kb_str_dict, kb_list_int, kb_list_bool, kb_list_str, kb_list_tuple, kb_list_list, kb_list_dict, kb_tuple_int, kb_tuple_bool, kb_tuple_str, kb_tuple_tuple, kb_tuple_list, kb_tuple_dict, kb_dict_int, kb_dict_bool, kb_dict_str, kb_dict_tuple, kb_dict_list, kb_dict_dict, String.reduceEq, Int.reduceLT, Int.reduceLE, Int.reduceNeg, Int.reducePow, Nat.reducePow, Int.reduceToNat, Nat.reduceLT, Nat.reduceLeDiff, decide_true, decide_false, and_self, and_true, true_and, or_true, true_or, or_false, false_or, Bool.not_true, Bool.not_false, Bool.true_eq_false, Bool.false_eq_true, Option.map_some, Option.map_none, h1, h2, PyData.eqv, q3]
  simp only [h3, cV_, cK_, cBin_, cCall_, cCons_, cNil_, cH_, cD_, cA_, cT_, cIf_, cAndT_, cOrT_, cNotT_, cAndV_, cOrV_, cNotV_, cChain_, cSl_, cPart_, cNoPart_, cMt_, cIsi_, cNeg_, cFn_, sNil_, sCons_, sIf_, sSet_, sPar_, sExpr_, sRet_, sRetN_, sRaise_, sBrk_, sCnt_, sStore_, fnOf_, iAny_, iR1_, iR2_, iEn_, gN_, gT_, gsN_, gsC_, stepS_, cYes_, lcF_, bT, iP, isTy, tyName, opTup, opLst, opAdd, opII, cDivB, opMul, opOrd, opEq, kD_nn, kD_ii, kD_bb, kD_ss, kD_ni, kD_nb, kD_ns, kD_in, kD_bn, kD_sn, kD_is, kD_si, kD_bs, kD_sb, kD_tuple1, kD_tuple2, kD_list1, kD_list2, kD_ib, kD_bi, opIsN, opIx, opSl, one, fLen, fInt, fAbs, fTup, fList, see, hold, toD, adopt, Rs.bind, Rs.thenS, opStore, expo, itmOf, wipeR, mAppend, mExtend, List.getElem?_cons_zero, List.getElem?_cons_succ, List.map_cons, List.map_nil, List.length_cons, List.length_nil, List.cons_append, List.nil_append, List.replicate_succ, List.replicate_zero, List.set_cons_zero, List.set_cons_succ, Nat.zero_add, Nat.reduceAdd, Nat.reduceSub, ↓reduceIte, reduceCtorEq, String.reduceBEq, kb_NoneType_int, kb_NoneType_bool, kb_NoneType_str, kb_NoneType_tuple, kb_NoneType_list, kb_NoneType_dict, kb_bool_int, kb_bool_bool, kb_bool_str, kb_bool_tuple, kb_bool_list, kb_bool_dict, kb_int_int, kb_int_bool, kb_int_str, kb_int_tuple, kb_int_list, kb_int_dict, kb_str_int, kb_str_bool, kb_str_str, kb_str_tuple, kb_str_list, kb_str_dict, kb_list_int, kb_list_bool, kb_list_str, kb_list_tuple, kb_list_list, kb_list_dict, kb_tuple_int, kb_tuple_bool, kb_tuple_str, kb_tuple_tuple, kb_tuple_list, kb_tuple_dict, kb_dict_int, kb_dict_bool, kb_dict_str, kb_dict_tuple, kb_dict_list, kb_dict_dict, String.reduceEq, Int.reduceLT, Int.reduceLE, Int.reduceNeg, Int.reducePow, Nat.reducePow, Int.reduceToNat, Nat.reduceLT, Nat.reduceLeDiff, decide_true, decide_false, and_self, and_true, true_and, or_true, true_or, or_false, false_or, Bool.not_true, Bool.not_false, Bool.true_eq_false, Bool.false_eq_true, Option.map_some, Option.map_none]
  have q5 : (kinD (codeD cs) (codeD cs) = true ∨ SeqAt.shaped (codeD cs) = true) := .inr q2
  simp [q1, q2]
end L52
set_option maxRecDepth 100000
set_option maxHeartbeats 1000000
namespace L52
open PySem PySem.Spec PyProof.Rows L2 Em
open TL (tl)
def s6 : SC := (sPar 5 6 (cH (cFn 2 F__law_draw (cCons (cV 1) (cCons (cH (cCall (one fLen) (cCons (cV 4) cNil))) cNil)))) (cH (cFn 2 F__law_any (cCons (cV 1) (cCons (cH (cCall opLst (cCons (cK (.str "0")) (cCons (cK (.str "1")) (cCons (cK (.str "")) (cCons (cK (.str "10")) (cCons (cK (.str "00")) cNil))))))) cNil)))))
theorem s6_run {t : Str} (h0 : 0 < t.length) (h1 : t.length ≤ 80) {x0 z2 z3 z5 z6 z7 z8 z9 z10 z11 z12 : Option R} {μ : Mem} (h : HM μ) : ∃ (r : Int) (sg : Str) (μ' : Mem), s6 [x0, some (.c 0), z2, z3, some (.d (.str t)), z5, z6, z7, z8, z9, z10, z11, z12] μ = .nx [x0, some (.c 0), z2, z3, some (.d (.str t)), some (.d (.int r)), some (.d (.str sg)), z7, z8, z9, z10, z11, z12] μ' ∧ HM μ' ∧ 0 ≤ r ∧ bits sg ∧ sg.length ≤ 2 := by
  have hl : t.length ≤ sizeLine := nat_sizeLine (by omega)
  obtain ⟨r, μ1, e1, h1', _, r0, r1⟩ := draw_hm (m := ((t.length : Nat) : Int)) h (by omega) (by omega) []
  simp only [List.append_nil] at e1
  obtain ⟨d, μ2, e2, h2, _, hm⟩ := any_hm (xs := [.str "0", .str "1", .str "", .str "10", .str "00"]) h1' (by decide) (by decide)
  have h5 : 5 ≤ sizeLine := by decide
  obtain ⟨sg, rfl, hb, hsl⟩ : ∃ sg, d = .str sg ∧ bits sg ∧ sg.length ≤ 2 := by
    simp only [List.mem_cons, List.not_mem_nil, or_false] at hm
    unfold bits
    rcases hm with rfl | rfl | rfl | rfl | rfl <;> exact ⟨_, rfl, by decide +kernel, by decide +kernel⟩
  refine ⟨r, sg, μ2, ?_, h2, r0, hb, hsl⟩
  simp only [s6, cV_, cK_, cBin_, cCall_, cCons_, cNil_, cH_, cD_, cA_, cT_, cIf_, cAndT_, cOrT_, cNotT_, cAndV_, cOrV_, cNotV_, cChain_, cSl_, cPart_, cNoPart_, cMt_, cIsi_, cNeg_, cFn_, sNil_, sCons_, sIf_, sSet_, sPar_, sExpr_, sRet_, sRetN_, sRaise_, sBrk_, sCnt_, sStore_, fnOf_, iAny_, iR1_, iR2_, iEn_, gN_, gT_, gsN_, gsC_, stepS_, cYes_, lcF_, bT, iP, isTy, tyName, opTup, opLst, opAdd, opII, cDivB, opMul, opOrd, opEq, kD_nn, kD_ii, kD_bb, kD_ss, kD_ni, kD_nb, kD_ns, kD_in, kD_bn, kD_sn, kD_is, kD_si, kD_bs, kD_sb, kD_tuple1, kD_tuple2, kD_list1, kD_list2, kD_ib, kD_bi, opIsN, opIx, opSl, one, fLen, fInt, fAbs, fTup, fList, see, hold, toD, adopt, Rs.bind, Rs.thenS, opStore, expo, itmOf, wipeR, mAppend, mExtend, List.getElem?_cons_zero, List.getElem?_cons_succ, List.map_cons, List.map_nil, List.length_cons, List.length_nil, List.cons_append, List.nil_append, List.replicate_succ, List.replicate_zero, List.set_cons_zero, List.set_cons_succ, Nat.zero_add, Nat.reduceAdd, Nat.reduceSub, ↓reduceIte, reduceCtorEq, String.reduceBEq, kb_NoneType_int, kb_NoneType_bool, kb_NoneType_str, kb_NoneType_tuple, kb_NoneType_list, kb_NoneType_dict, kb_bool_int, kb_bool_bool, kb_bool_str, kb_bool_tuple, kb_bool_list, kb_bool_dict, kb_int_int, kb_int_bool, kb_int_str, kb_int_tuple, kb_int_list, kb_int_dict, kb_str_int, kb_str_bool, kb_str_str, kb_str_tuple, kb_str_list, kb_str_dict, kb_list_int, kb_list_bool, kb_list_str, kb_list_tuple, kb_list_list, kb_list_dict, kb_tuple_int, kb_tuple_bool, kb_tuple_str, kb_tuple_tuple, kb_tuple_list, kb_tuple_dict, kb_dict_int, kb_dict_bool, kb_dict_str, kb_dict_tuple, kb_dict_list, kb_dict_dict, String.reduceEq, Int.reduceLT, Int.reduceLE, Int.reduceNeg, Int.reducePow, Nat.reducePow, Int.reduceToNat, Nat.reduceLT, Nat.reduceLeDiff, decide_true, decide_false, and_self, and_true, true_and, or_true, true_or, or_false, false_or, Bool.not_true, Bool.not_false, Bool.true_eq_false, Bool.false_eq_true, Option.map_some, Option.map_none, if_pos hl, e1, List.mapM_cons, List.mapM_nil, Option.bind_eq_bind, Option.bind_some, Option.pure_def, if_pos h5, e2]
theorem tl_cutS (z : Str) (lo hi : Option Int) : tl (L2.cutS z lo hi) = Em.cutD (tl z) lo hi := by
  unfold L2.cutS Em.cutD
  rw [TL.tl_mk, ← TL.len_tl]
theorem bits_cut {z : Str} (h : bits z) (lo hi : Option Int) : bits (L2.cutS z lo hi) := by
  unfold bits
  rw [tl_cutS]
  exact fun c hc => h c (cutD_mem hc)
theorem len_cut (z : Str) (lo hi : Option Int) : (L2.cutS z lo hi).length ≤ z.length := by
  rw [TL.len_tl, tl_cutS, TL.len_tl]
  exact cutD_len _ _ _
def s7 : SC := (sSet 7 (cH (cCall opLst (cCons (cD (cBin opAdd (cH (cBin opAdd (cH (cSl (cV 4) cNoPart (cPart (cV 5)))) (cV 6))) (cH (cSl (cV 4) (cPart (cBin opAdd (cV 5) (cK (.int 1)))) cNoPart)))) (cCons (cD (cBin opAdd (cV 4) (cK (.str "0")))) (cCons (cD (cSl (cV 4) (cPart (cK (.int 1))) cNoPart)) (cCons (cD (cBin opAdd (cV 4) (cV 4))) (cCons (cD (cBin opMul (cK (.str "10")) (cK (.int 12)))) (cCons (cK (.str "")) (cCons (cD (cBin opAdd (cH (cBin opAdd (cV 4) (cK (.str "00")))) (cV 4))) cNil))))))))))
def textOk (d : D) : Prop := ∃ t, d = .str t ∧ bits t ∧ t.length ≤ 400
theorem s7_run {t sg : Str} {r : Int} (hb : bits t) (h1 : t.length ≤ 80) (hb2 : bits sg) (h2 : sg.length ≤ 2) {x0 x1 z2 z3 z7 z8 z9 z10 z11 z12 : Option R} {μ : Mem} : ∃ L : List D, s7 [x0, x1, z2, z3, some (.d (.str t)), some (.d (.int r)), some (.d (.str sg)), z7, z8, z9, z10, z11, z12] μ = .nx [x0, x1, z2, z3, some (.d (.str t)), some (.d (.int r)), some (.d (.str sg)), some (.d (.list L)), z8, z9, z10, z11, z12] μ ∧ L.length = 7 ∧ ∀ d ∈ L, textOk d := by
  have hl : t.length ≤ sizeLine := nat_sizeLine (by omega)
  have l1 : (L2.cutS t none (some r)).length + sg.length ≤ sizeLine := nat_sizeLine (by have := len_cut t none (some r); omega)
  have l2 : (L2.cutS t none (some r) ++ sg).length + (L2.cutS t (some (r + 1)) none).length ≤ sizeLine := nat_sizeLine (by have := len_cut t none (some r); have := len_cut t (some (r + 1)) none; rw [len_app]; omega)
  have e0 : ("0" : Str).length = 1 := by decide
  have e00 : ("00" : Str).length = 2 := by decide
  have l3 : t.length + ("0" : Str).length ≤ sizeLine := nat_sizeLine (by omega)
  have l4 : t.length + t.length ≤ sizeLine := nat_sizeLine (by omega)
  have l5 : t.length + ("00" : Str).length ≤ sizeLine := nat_sizeLine (by omega)
  have l6 : (t ++ ("00" : Str)).length + t.length ≤ sizeLine := nat_sizeLine (by rw [len_app]; omega)
  have h7 : 7 ≤ sizeLine := by decide
  have c1 : ("10" : Str).length ≤ 100 := by decide
  have b0 : bits ("0" : Str) := by unfold bits; decide +kernel
  have b00 : bits ("00" : Str) := by unfold bits; decide +kernel
  have be : bits ("" : Str) := by unfold bits; decide +kernel
  refine ⟨[.str (L2.cutS t none (some r) ++ sg ++ L2.cutS t (some (r + 1)) none), .str (t ++ "0"), .str (L2.cutS t (some 1) none), .str (t ++ t), .str (strRep "10" 12), .str "", .str (t ++ "00" ++ t)], ?_, rfl, fun d hd => ?_⟩
  · simp only [s7, cV_, cK_, cBin_, cCall_, cCons_, cNil_, cH_, cD_, cA_, cT_, cIf_, cAndT_, cOrT_, cNotT_, cAndV_, cOrV_, cNotV_, cChain_, cSl_, cPart_, cNoPart_, cMt_, cIsi_, cNeg_, cFn_, sNil_, sCons_, sIf_, sSet_, sPar_, sExpr_, sRet_, sRetN_, sRaise_, sBrk_, sCnt_, sStore_, fnOf_, iAny_, iR1_, iR2_, iEn_, gN_, gT_, gsN_, gsC_, stepS_, cYes_, lcF_, bT, iP, isTy, tyName, opTup, opLst, opAdd, opII, cDivB, opMul, opOrd, opEq, kD_nn, kD_ii, kD_bb, kD_ss, kD_ni, kD_nb, kD_ns, kD_in, kD_bn, kD_sn, kD_is, kD_si, kD_bs, kD_sb, kD_tuple1, kD_tuple2, kD_list1, kD_list2, kD_ib, kD_bi, opIsN, opIx, opSl, one, fLen, fInt, fAbs, fTup, fList, see, hold, toD, adopt, Rs.bind, Rs.thenS, opStore, expo, itmOf, wipeR, mAppend, mExtend, List.getElem?_cons_zero, List.getElem?_cons_succ, List.map_cons, List.map_nil, List.length_cons, List.length_nil, List.cons_append, List.nil_append, List.replicate_succ, List.replicate_zero, List.set_cons_zero, List.set_cons_succ, Nat.zero_add, Nat.reduceAdd, Nat.reduceSub, ↓reduceIte, reduceCtorEq, String.reduceBEq, kb_NoneType_int, kb_NoneType_bool, kb_NoneType_str, kb_NoneType_tuple, kb_NoneType_list, kb_NoneType_dict, kb_bool_int, kb_bool_bool, kb_bool_str, kb_bool_tuple, kb_bool_list, kb_bool_dict, kb_int_int, kb_int_bool, kb_int_str, kb_int_tuple, kb_int_list, kb_int_dict, kb_str_int, kb_str_bool, kb_str_str, kb_str_tuple, kb_str_list, kb_str_dict, kb_list_int, kb_list_bool, kb_list_str, kb_list_tuple, kb_list_list, kb_list_dict, kb_tuple_int, kb_tuple_bool, kb_tuple_str, kb_tuple_tuple, kb_tuple_list, kb_tuple_dict, kb_dict_int, kb_dict_bool, kb_dict_str, kb_dict_tuple, kb_dict_list, kb_dict_dict, String.reduceEq, Int.reduceLT, Int.reduceLE, Int.reduceNeg, Int.reducePow, Nat.reducePow, Int.reduceToNat, Nat.reduceLT, Nat.reduceLeDiff, decide_true, decide_false, and_self, and_true, true_and, or_true, true_or, or_false, false_or, Bool.not_true, Bool.not_false, Bool.true_eq_false, Bool.false_eq_true, Option.map_some, Option.map_none, if_pos hl, if_pos l1, if_pos l2, if_pos l3, if_pos l4, if_pos l5, if_pos l6, c1, List.mapM_cons, List.mapM_nil, Option.bind_eq_bind, Option.bind_some, Option.pure_def, if_pos h7]
  · simp only [List.mem_cons, List.not_mem_nil, or_false] at hd
    rcases hd with rfl | rfl | rfl | rfl | rfl | rfl | rfl
    · exact ⟨_, rfl, bits_app (bits_app (bits_cut hb _ _) hb2) (bits_cut hb _ _), by rw [len_app, len_app]; have := len_cut t none (some r); have := len_cut t (some (r + 1)) none; omega⟩
    · exact ⟨_, rfl, bits_app hb b0, by rw [len_app]; omega⟩
    · exact ⟨_, rfl, bits_cut hb _ _, by have := len_cut t (some 1) none; omega⟩
    · exact ⟨_, rfl, bits_app hb hb, by rw [len_app]; omega⟩
    · exact ⟨_, rfl, by unfold bits; rw [show (12 : Int) = ((12 : Nat) : Int) from rfl, tl_rep]; exact bits_rep 12, by rw [show (12 : Int) = ((12 : Nat) : Int) from rfl, strRep_len]; omega⟩
    · exact ⟨_, rfl, be, by decide⟩
    · exact ⟨_, rfl, bits_app (bits_app hb b00) hb, by rw [len_app, len_app]; omega⟩
def s8 : SC := (sFor (iAny (cV 7)) (gN 8)
  (sIf (cT (cBin (opEq true) (cH (cFn 1 F_code_by_beats (cCons (cV 8) cNil))) (cH (cFn 1 F__law_read (cCons (cV 8) cNil)))))
  (sRet (cK (.bool false)))
  sNil))
theorem read_same (t : Str) : PyData.eqv (readD t) (readD t) = true ∧ (kinD (readD t) (readD t) = true ∨ SeqAt.shaped (readD t) = true) := by
  unfold readD
  split
  · exact ⟨(eqv_codeD _).1, .inr (eqv_codeD _).2⟩
  · exact ⟨rfl, .inl rfl⟩
theorem s8_run {L : List D} (hL : ∀ d ∈ L, textOk d) {x0 x1 z2 z3 z4 z5 z6 z8 z9 z10 z11 z12 : Option R} {μ : Mem} : ∃ z8', s8 [x0, x1, z2, z3, z4, z5, z6, some (.d (.list L)), z8, z9, z10, z11, z12] μ = .nx [x0, x1, z2, z3, z4, z5, z6, some (.d (.list L)), z8', z9, z10, z11, z12] μ := by
  unfold s8
  rw [sFor_eq (itm_list L) (μ1 := μ) (by simp only [cV_, cK_, cBin_, cCall_, cCons_, cNil_, cH_, cD_, cA_, cT_, cIf_, cAndT_, cOrT_, cNotT_, cAndV_, cOrV_, cNotV_, cChain_, cSl_, cPart_, cNoPart_, cMt_, cIsi_, cNeg_, cFn_, sNil_, sCons_, sIf_, sSet_, sPar_, sExpr_, sRet_, sRetN_, sRaise_, sBrk_, sCnt_, sStore_, fnOf_, iAny_, iR1_, iR2_, iEn_, gN_, gT_, gsN_, gsC_, stepS_, cYes_, lcF_, bT, iP, isTy, tyName, opTup, opLst, opAdd, opII, cDivB, opMul, opOrd, opEq, kD_nn, kD_ii, kD_bb, kD_ss, kD_ni, kD_nb, kD_ns, kD_in, kD_bn, kD_sn, kD_is, kD_si, kD_bs, kD_sb, kD_tuple1, kD_tuple2, kD_list1, kD_list2, kD_ib, kD_bi, opIsN, opIx, opSl, one, fLen, fInt, fAbs, fTup, fList, see, hold, toD, adopt, Rs.bind, Rs.thenS, opStore, expo, itmOf, wipeR, mAppend, mExtend, List.getElem?_cons_zero, List.getElem?_cons_succ, List.map_cons, List.map_nil, List.length_cons, List.length_nil, List.cons_append, List.nil_append, List.replicate_succ, List.replicate_zero, List.set_cons_zero, List.set_cons_succ, Nat.zero_add, Nat.reduceAdd, Nat.reduceSub, ↓reduceIte, reduceCtorEq, String.reduceBEq, kb_NoneType_int, kb_NoneType_bool, kb_NoneType_str, kb_NoneType_tuple, kb_NoneType_list, kb_NoneType_dict, kb_bool_int, kb_bool_bool, kb_bool_str, kb_bool_tuple, kb_bool_list, kb_bool_dict, kb_int_int, kb_int_bool, kb_int_str, kb_int_tuple, kb_int_list, kb_int_dict, kb_str_int, kb_str_bool, kb_str_str, kb_str_tuple, kb_str_list, kb_str_dict, kb_list_int, kb_list_bool, kb_list_str, kb_list_tuple, kb_list_list, kb_list_dict, kb_tuple_int, kb_tuple_bool, kb_tuple_str, kb_tuple_tuple, kb_tuple_list, kb_tuple_dict, kb_dict_int, kb_dict_bool, kb_dict_str, kb_dict_tuple, kb_dict_list, kb_dict_dict, String.reduceEq, Int.reduceLT, Int.reduceLE, Int.reduceNeg, Int.reducePow, Nat.reducePow, Int.reduceToNat, Nat.reduceLT, Nat.reduceLeDiff, decide_true, decide_false, and_self, and_true, true_and, or_true, true_or, or_false, false_or, Bool.not_true, Bool.not_false, Bool.true_eq_false, Bool.false_eq_true, Option.map_some, Option.map_none])]
  obtain ⟨ρ', μ', e, z8', rfl, rfl⟩ := for_inv (b := stepS (gN 8) (sIf (cT (cBin (opEq true) (cH (cFn 1 F_code_by_beats (cCons (cV 8) cNil))) (cH (cFn 1 F__law_read (cCons (cV 8) cNil))))) (sRet (cK (.bool false))) sNil)) (itm_list L) (fun i ρ μ' => ∃ z8, ρ = [x0, x1, z2, z3, z4, z5, z6, some (.d (.list L)), z8, z9, z10, z11, z12] ∧ μ' = μ) (fun i d ρ μ' hd hI => by
    obtain ⟨z8, rfl, rfl⟩ := hI
    obtain ⟨t, rfl, hb, hl⟩ := hL d (List.mem_of_getElem? hd)
    have h1 := code_ok hb hl
    have h2 := read_ok hl
    obtain ⟨q1, q2⟩ := read_same t
    refine ⟨_, _, ?_, some (.d (.str t)), rfl, rfl⟩
    simp only [cV_, cK_, cBin_, cCall_, cCons_, cNil_, cH_, cD_, cA_, cT_, cIf_, cAndT_, cOrT_, cNotT_, cAndV_, cOrV_, cNotV_, cChain_, cSl_, cPart_, cNoPart_, cMt_, cIsi_, cNeg_, cFn_, sNil_, sCons_, sIf_, sSet_, sPar_, sExpr_, sRet_, sRetN_, sRaise_, sBrk_, sCnt_, sStore_, fnOf_, iAny_, iR1_, iR2_, iEn_, gN_, gT_, gsN_, gsC_, stepS_, cYes_, lcF_, bT, iP, isTy, tyName, opTup, opLst, opAdd, opII, cDivB, opMul, opOrd, opEq, kD_nn, kD_ii, kD_bb, kD_ss, kD_ni, kD_nb, kD_ns, kD_in, kD_bn, kD_sn, kD_is, kD_si, kD_bs, kD_sb, kD_tuple1, kD_tuple2, kD_list1, kD_list2, kD_ib, kD_bi, opIsN, opIx, opSl, one, fLen, fInt, fAbs, fTup, fList, see, hold, toD, adopt, Rs.bind, Rs.thenS, opStore, expo, itmOf, wipeR, mAppend, mExtend, List.getElem?_cons_zero, List.getElem?_cons_succ, List.map_cons, List.map_nil, List.length_cons, List.length_nil, List.cons_append, List.nil_append, List.replicate_succ, List.replicate_zero, List.set_cons_zero, List.set_cons_succ, Nat.zero_add, Nat.reduceAdd, Nat.reduceSub, ↓reduceIte, reduceCtorEq, String.reduceBEq, kb_NoneType_int, kb_NoneType_bool, kb_NoneType_str, kb_NoneType_tuple, kb_NoneType_list, kb_NoneType_dict, kb_bool_int, kb_bool_bool, kb_bool_str, kb_bool_tuple, kb_bool_list, kb_bool_dict, kb_int_int, kb_int_bool, kb_int_str, kb_int_tuple, kb_int_list, kb_int_dict, kb_str_int, kb_str_bool, kb_str_str, kb_str_tuple, kb_str_list, kb_str_dict, kb_list_int, kb_list_bool, kb_list_str, kb_list_tuple, kb_list_list, kb_list_dict, kb_tuple_int, kb_tuple_bool, kb_tuple_str, kb_tuple_tuple, kb_tuple_list, kb_tuple_dict, kb_dict_int, kb_dict_bool, kb_dict_str, kb_dict_tuple, kb_dict_list, kb_dict_dict, String.reduceEq, Int.reduceLT, Int.reduceLE, Int.reduceNeg, Int.reducePow, Nat.reducePow, Int.reduceToNat, Nat.reduceLT, Nat.reduceLeDiff, decide_true, decide_false, and_self, and_true, true_and, or_true, true_or, or_false, false_or, Bool.not_true, Bool.not_false, Bool.true_eq_false, Bool.false_eq_true, Option.map_some, Option.map_none, h1, h2]
    simp [q1, q2]) (ρ := [x0, x1, z2, z3, z4, z5, z6, some (.d (.list L)), z8, z9, z10, z11, z12]) (μ := μ) ⟨z8, rfl, rfl⟩
  exact ⟨z8', e⟩
def s9 : SC := (sSet 9 (cH (cFn 2 F__law_any (cCons (cV 1) (cCons (cH (cCall opLst (cCons (cK .none) (cCons (cD (cCall opTup cNil)) (cCons (cD (cCall opTup (cCons (cK (.int 0)) cNil))) (cCons (cD (cCall opTup (cCons (cK (.int 10)) cNil))) (cCons (cD (cCall opLst (cCons (cK (.int 1)) cNil))) (cCons (cD (cCall opTup (cCons (cK (.int 1)) (cCons (cK (.int 1)) (cCons (cK (.int 1)) (cCons (cK (.int 1)) (cCons (cK (.int 1)) cNil))))))) (cCons (cD (cCall opTup (cCons (cK (.bool true)) cNil))) (cCons (cK (.str "1")) (cCons (cK (.int 0)) (cCons (cD (cCall opTup (cCons (cK .none) cNil))) cNil)))))))))))) cNil)))))
theorem s9_run {x0 z2 z3 z4 z5 z6 z7 z8 z9 z10 z11 z12 : Option R} {μ : Mem} (h : HM μ) : ∃ x μ', s9 [x0, some (.c 0), z2, z3, z4, z5, z6, z7, z8, z9, z10, z11, z12] μ = .nx [x0, some (.c 0), z2, z3, z4, z5, z6, z7, z8, some (.d x), z10, z11, z12] μ' ∧ HM μ' ∧ x ∈ badCodes := by
  obtain ⟨d, μ2, e2, h2, _, hm⟩ := any_hm (xs := badCodes) h (by decide) (by decide)
  have k : ∀ n, n ≤ 10 → n ≤ sizeLine := fun n h => nat_sizeLine (by omega)
  unfold badCodes at e2
  refine ⟨d, μ2, ?_, h2, hm⟩
  simp only [s9, cV_, cK_, cBin_, cCall_, cCons_, cNil_, cH_, cD_, cA_, cT_, cIf_, cAndT_, cOrT_, cNotT_, cAndV_, cOrV_, cNotV_, cChain_, cSl_, cPart_, cNoPart_, cMt_, cIsi_, cNeg_, cFn_, sNil_, sCons_, sIf_, sSet_, sPar_, sExpr_, sRet_, sRetN_, sRaise_, sBrk_, sCnt_, sStore_, fnOf_, iAny_, iR1_, iR2_, iEn_, gN_, gT_, gsN_, gsC_, stepS_, cYes_, lcF_, bT, iP, isTy, tyName, opTup, opLst, opAdd, opII, cDivB, opMul, opOrd, opEq, kD_nn, kD_ii, kD_bb, kD_ss, kD_ni, kD_nb, kD_ns, kD_in, kD_bn, kD_sn, kD_is, kD_si, kD_bs, kD_sb, kD_tuple1, kD_tuple2, kD_list1, kD_list2, kD_ib, kD_bi, opIsN, opIx, opSl, one, fLen, fInt, fAbs, fTup, fList, see, hold, toD, adopt, Rs.bind, Rs.thenS, opStore, expo, itmOf, wipeR, mAppend, mExtend, List.getElem?_cons_zero, List.getElem?_cons_succ, List.map_cons, List.map_nil, List.length_cons, List.length_nil, List.cons_append, List.nil_append, List.replicate_succ, List.replicate_zero, List.set_cons_zero, List.set_cons_succ, Nat.zero_add, Nat.reduceAdd, Nat.reduceSub, ↓reduceIte, reduceCtorEq, String.reduceBEq, kb_NoneType_int, kb_NoneType_bool, kb_NoneType_str, kb_NoneType_tuple, kb_NoneType_list, kb_NoneType_dict, kb_bool_int, kb_bool_bool, kb_bool_str, kb_bool_tuple, kb_bool_list, kb_bool_dict, kb_int_int, kb_int_bool, kb_int_str, kb_int_tuple, kb_int_list, kb_int_dict, kb_str_int, kb_str_bool, kb_str_str, kb_str_tuple, kb_str_list, kb_str_dict, kb_list_int, kb_list_bool, kb_list_str, kb_list_tuple, kb_list_list, kb_list_dict, kb_tuple_int, kb_tuple_bool, kb_tuple_str, kb_tuple_tuple, kb_tuple_list, kb_tuple_dict, kb_dict_int, kb_dict_bool, kb_dict_str, kb_dict_tuple, kb_dict_list, kb_dict_dict, String.reduceEq, Int.reduceLT, Int.reduceLE, Int.reduceNeg, Int.reducePow, Nat.reducePow, Int.reduceToNat, Nat.reduceLT, Nat.reduceLeDiff, decide_true, decide_false, and_self, and_true, true_and, or_true, true_or, or_false, false_or, Bool.not_true, Bool.not_false, Bool.true_eq_false, Bool.false_eq_true, Option.map_some, Option.map_none, List.mapM_cons, List.mapM_nil, Option.bind_eq_bind, Option.bind_some, Option.pure_def, if_pos (k 0 (by decide)), if_pos (k 1 (by decide)), if_pos (k 5 (by decide)), if_pos (k 10 (by decide)), e2]
def s10 : SC := (sSet 10 (cH (cFn 2 F__law_any (cCons (cV 1) (cCons (cH (cCall opLst (cCons (cK .none) (cCons (cK (.int 0)) (cCons (cK (.str "2")) (cCons (cK (.str "1 0")) (cCons (cD (cCall opLst (cCons (cK (.str "1")) (cCons (cK (.str "0")) cNil)))) (cCons (cD (cBin opMul (cK (.str "10")) (cK (.int 201)))) (cCons (cD (cCall opTup (cCons (cK (.str "10")) cNil))) (cCons (cK (.str "1O")) cNil)))))))))) cNil)))))
theorem s10_run {x0 z2 z3 z4 z5 z6 z7 z8 z9 z10 z11 z12 : Option R} {μ : Mem} (h : HM μ) : ∃ x μ', s10 [x0, some (.c 0), z2, z3, z4, z5, z6, z7, z8, z9, z10, z11, z12] μ = .nx [x0, some (.c 0), z2, z3, z4, z5, z6, z7, z8, z9, some (.d x), z11, z12] μ' ∧ HM μ' ∧ x ∈ badTexts := by
  obtain ⟨d, μ2, e2, h2, _, hm⟩ := any_hm (xs := badTexts) h (by decide) (by decide)
  have k : ∀ n, n ≤ 10 → n ≤ sizeLine := fun n h => nat_sizeLine (by omega)
  have c1 : ("10" : Str).length ≤ 100 := by decide
  unfold badTexts at e2
  refine ⟨d, μ2, ?_, h2, hm⟩
  simp only [s10, cV_, cK_, cBin_, cCall_, cCons_, cNil_, cH_, cD_, cA_, cT_, cIf_, cAndT_, cOrT_, cNotT_, cAndV_, cOrV_, cNotV_, cChain_, cSl_, cPart_, cNoPart_, cMt_, cIsi_, cNeg_, cFn_, sNil_, sCons_, sIf_, sSet_, sPar_, sExpr_, sRet_, sRetN_, sRaise_, sBrk_, sCnt_, sStore_, fnOf_, iAny_, iR1_, iR2_, iEn_, gN_, gT_, gsN_, gsC_, stepS_, cYes_, lcF_, bT, iP, isTy, tyName, opTup, opLst, opAdd, opII, cDivB, opMul, opOrd, opEq, kD_nn, kD_ii, kD_bb, kD_ss, kD_ni, kD_nb, kD_ns, kD_in, kD_bn, kD_sn, kD_is, kD_si, kD_bs, kD_sb, kD_tuple1, kD_tuple2, kD_list1, kD_list2, kD_ib, kD_bi, opIsN, opIx, opSl, one, fLen, fInt, fAbs, fTup, fList, see, hold, toD, adopt, Rs.bind, Rs.thenS, opStore, expo, itmOf, wipeR, mAppend, mExtend, List.getElem?_cons_zero, List.getElem?_cons_succ, List.map_cons, List.map_nil, List.length_cons, List.length_nil, List.cons_append, List.nil_append, List.replicate_succ, List.replicate_zero, List.set_cons_zero, List.set_cons_succ, Nat.zero_add, Nat.reduceAdd, Nat.reduceSub, ↓reduceIte, reduceCtorEq, String.reduceBEq, kb_NoneType_int, kb_NoneType_bool, kb_NoneType_str, kb_NoneType_tuple, kb_NoneType_list, kb_NoneType_dict, kb_bool_int, kb_bool_bool, kb_bool_str, kb_bool_tuple, kb_bool_list, kb_bool_dict, kb_int_int, kb_int_bool, kb_int_str, kb_int_tuple, kb_int_list, kb_int_dict, kb_str_int, kb_str_bool, kb_str_str, kb_str_tuple, kb_str_list, kb_str_dict, kb_list_int, kb_list_bool, kb_list_str, kb_list_tuple, kb_list_list, kb_list_dict, kb_tuple_int, kb_tuple_bool, kb_tuple_str, kb_tuple_tuple, kb_tuple_list, kb_tuple_dict, kb_dict_int, kb_dict_bool, kb_dict_str, kb_dict_tuple, kb_dict_list, kb_dict_dict, String.reduceEq, Int.reduceLT, Int.reduceLE, Int.reduceNeg, Int.reducePow, Nat.reducePow, Int.reduceToNat, Nat.reduceLT, Nat.reduceLeDiff, decide_true, decide_false, and_self, and_true, true_and, or_true, true_or, or_false, false_or, Bool.not_true, Bool.not_false, Bool.true_eq_false, Bool.false_eq_true, Option.map_some, Option.map_none, c1, List.mapM_cons, List.mapM_nil, Option.bind_eq_bind, Option.bind_some, Option.pure_def, if_pos (k 1 (by decide)), if_pos (k 2 (by decide)), if_pos (k 8 (by decide)), e2]
def s11 : SC := (sCons (sSet 11 (cA (cCall opLst (cCons (cD (cLam P__law_word_of (cFn 1 F_beats_of (cCons (cV 9) cNil)))) cNil))))
  (sCons (sExpr (cMt "list" mAppend (cV 11) (cCons (cD (cLam P__law_word_of (cFn 1 F_code_by_beats (cCons (cV 10) cNil)))) cNil)))
  (sIf (cT (cBin (opEq true) (cV 11) (cH (cCall opLst (cCons (cK (.str "code")) (cCons (cK (.str "text")) cNil))))))
  (sRet (cK (.bool false)))
  sNil)))
theorem s11_run {x y : D} (hx : x ∈ badCodes) (hy : y ∈ badTexts) {x0 x1 z2 z3 z4 z5 z6 z7 z8 z11 z12 : Option R} {μ : Mem} (h : HM μ) : ∃ z11' μ', s11 [x0, x1, z2, z3, z4, z5, z6, z7, z8, some (.d x), some (.d y), z11, z12] μ = .nx [x0, x1, z2, z3, z4, z5, z6, z7, z8, some (.d x), some (.d y), z11', z12] μ' ∧ HM μ' := by
  have w1 : ∀ μ, P__law_word_of (fun μ' => F_beats_of [.d x] μ') μ = .ok (.d (.str "code")) μ := fun μ => word_code (badCodes_bad hx μ)
  have w2 : ∀ μ, P__law_word_of (fun μ' => F_code_by_beats [.d y] μ') μ = .ok (.d (.str "text")) μ := fun μ => word_text (badTexts_bad hy μ)
  have k1 : 1 ≤ sizeLine := by decide
  have k2 : 2 ≤ sizeLine := by decide
  have k3 : 1 < sizeLine := by decide
  have hg : (μ ++ [Cell.lst [.str "code"]])[μ.length]? = some (.lst [.str "code"]) := by simp
  have hs : (μ ++ [Cell.lst [.str "code"]]).set μ.length (.lst [.str "code", .str "text"]) = μ ++ [.lst [.str "code", .str "text"]] := by simp
  have hg2 : (μ ++ [Cell.lst [.str "code", .str "text"]])[μ.length]? = some (.lst [.str "code", .str "text"]) := by simp
  have q : PyData.eqv (.list [.str "code", .str "text"]) (.list [.str "code", .str "text"]) = true ∧ SeqAt.shaped (.list [.str "code", .str "text"]) = true := by decide +kernel
  refine ⟨some (.c μ.length), μ ++ [.lst [.str "code", .str "text"]], ?_, h.app _⟩
  simp only [s11, cV_, cK_, cBin_, cCall_, cCons_, cNil_, cH_, cD_, cA_, cT_, cIf_, cAndT_, cOrT_, cNotT_, cAndV_, cOrV_, cNotV_, cChain_, cSl_, cPart_, cNoPart_, cMt_, cIsi_, cNeg_, cFn_, sNil_, sCons_, sIf_, sSet_, sPar_, sExpr_, sRet_, sRetN_, sRaise_, sBrk_, sCnt_, sStore_, fnOf_, iAny_, iR1_, iR2_, iEn_, gN_, gT_, gsN_, gsC_, stepS_, cYes_, lcF_, bT, iP, isTy, tyName, opTup, opLst, opAdd, opII, cDivB, opMul, opOrd, opEq, kD_nn, kD_ii, kD_bb, kD_ss, kD_ni, kD_nb, kD_ns, kD_in, kD_bn, kD_sn, kD_is, kD_si, kD_bs, kD_sb, kD_tuple1, kD_tuple2, kD_list1, kD_list2, kD_ib, kD_bi, opIsN, opIx, opSl, one, fLen, fInt, fAbs, fTup, fList, see, hold, toD, adopt, Rs.bind, Rs.thenS, opStore, expo, itmOf, wipeR, mAppend, mExtend, List.getElem?_cons_zero, List.getElem?_cons_succ, List.map_cons, List.map_nil, List.length_cons, List.length_nil, List.cons_append, List.nil_append, List.replicate_succ, List.replicate_zero, List.set_cons_zero, List.set_cons_succ, Nat.zero_add, Nat.reduceAdd, Nat.reduceSub, ↓reduceIte, reduceCtorEq, String.reduceBEq, kb_NoneType_int, kb_NoneType_bool, kb_NoneType_str, kb_NoneType_tuple, kb_NoneType_list, kb_NoneType_dict, kb_bool_int, kb_bool_bool, kb_bool_str, kb_bool_tuple, kb_bool_list, kb_bool_dict, kb_int_int, kb_int_bool, kb_int_str, kb_int_tuple, kb_int_list, kb_int_dict, kb_str_int, kb_str_bool, kb_str_str, kb_str_tuple, kb_str_list, kb_str_dict, kb_list_int, kb_list_bool, kb_list_str, kb_list_tuple, kb_list_list, kb_list_dict, kb_tuple_int, kb_tuple_bool, kb_tuple_str, kb_tuple_tuple, kb_tuple_list, kb_tuple_dict, kb_dict_int, kb_dict_bool, kb_dict_str, kb_dict_tuple, kb_dict_list, kb_dict_dict, String.reduceEq, Int.reduceLT, Int.reduceLE, Int.reduceNeg, Int.reducePow, Nat.reducePow, Int.reduceToNat, Nat.reduceLT, Nat.reduceLeDiff, decide_true, decide_false, and_self, and_true, true_and, or_true, true_or, or_false, false_or, Bool.not_true, Bool.not_false, Bool.true_eq_false, Bool.false_eq_true, Option.map_some, Option.map_none, cLam_, w1, List.mapM_cons, List.mapM_nil, Option.bind_eq_bind, Option.bind_some, Option.pure_def, if_pos k1, if_pos k2, cLam_, w2, hg, if_pos k3, hs, hg2, q]
end L52
set_option maxRecDepth 100000
set_option maxHeartbeats 1000000
namespace L52
open PySem PySem.Spec PyProof.Rows L2 Em
open TL (tl)
def bodyL : SC := sCons s3 (s45 (sCons s6 (sCons s7 (sCons s8 (sCons s9 (sCons s10 s11))))))
theorem law_body : C_law = (sCons (sSet 1 (cA (cFn 1 F__law_hand (cCons (cV 0) cNil))))
  (sCons (sFor (iR1 (cK (.int 8))) (gN 2) bodyL)
  (sRet (cAndV (cBin (opEq false) (cH (cFn 1 F_beats_of (cCons (cH (cCall opTup (cCons (cK (.int 2)) (cCons (cK (.int 1)) cNil)))) cNil))) (cK (.str "10100010"))) (cAndV (cBin (opIsN false) (cH (cFn 1 F_code_by_beats (cCons (cK (.str "1000")) cNil))) (cK .none)) (cBin (opEq false) (cH (cFn 1 F_code_by_beats (cCons (cK (.str "10")) cNil))) (cH (cCall opTup (cCons (cK (.int 1)) cNil))))))))) := rfl
theorem body_run {x0 z2 z3 z4 z5 z6 z7 z8 z9 z10 z11 z12 : Option R} {μ : Mem} (h : HM μ) : ∃ y3 y4 y5 y6 y7 y8 y9 y10 y11 μ', bodyL [x0, some (.c 0), z2, z3, z4, z5, z6, z7, z8, z9, z10, z11, z12] μ = .nx [x0, some (.c 0), z2, y3, y4, y5, y6, y7, y8, y9, y10, y11, z12] μ' ∧ HM μ' := by
  obtain ⟨cs, μ1, e1, h1, hc⟩ := s3_run (x0 := x0) (z2 := z2) (z3 := z3) (z4 := z4) (z5 := z5) (z6 := z6) (z7 := z7) (z8 := z8) (z9 := z9) (z10 := z10) (z11 := z11) (z12 := z12) h
  have hc' := hc
  unfold isCode at hc'
  simp only [Bool.and_eq_true, decide_eq_true_eq, List.all_eq_true] at hc'
  have hl := len_bS (fun c h' => (hc'.2 c h').2) (by omega : cs.length ≤ 4)
  obtain ⟨r, sg, μ2, e2, h2, r0, hb, hsl⟩ := s6_run (t := bS cs) (len_pos hc) hl (x0 := x0) (z2 := z2) (z3 := some (.d (codeD cs))) (z5 := z5) (z6 := z6) (z7 := z7) (z8 := z8) (z9 := z9) (z10 := z10) (z11 := z11) (z12 := z12) h1
  obtain ⟨L, e3, _, hL⟩ := s7_run (t := bS cs) (sg := sg) (r := r) (bits_bS cs) hl hb hsl (x0 := x0) (x1 := some (.c 0)) (z2 := z2) (z3 := some (.d (codeD cs))) (z7 := z7) (z8 := z8) (z9 := z9) (z10 := z10) (z11 := z11) (z12 := z12) (μ := μ2)
  obtain ⟨z8', e4⟩ := s8_run hL (x0 := x0) (x1 := some (.c 0)) (z2 := z2) (z3 := some (.d (codeD cs))) (z4 := some (.d (.str (bS cs)))) (z5 := some (.d (.int r))) (z6 := some (.d (.str sg))) (z8 := z8) (z9 := z9) (z10 := z10) (z11 := z11) (z12 := z12) (μ := μ2)
  obtain ⟨x, μ3, e5, h5, hx⟩ := s9_run (x0 := x0) (z2 := z2) (z3 := some (.d (codeD cs))) (z4 := some (.d (.str (bS cs)))) (z5 := some (.d (.int r))) (z6 := some (.d (.str sg))) (z7 := some (.d (.list L))) (z8 := z8') (z9 := z9) (z10 := z10) (z11 := z11) (z12 := z12) h2
  obtain ⟨y, μ4, e6, h6, hy⟩ := s10_run (x0 := x0) (z2 := z2) (z3 := some (.d (codeD cs))) (z4 := some (.d (.str (bS cs)))) (z5 := some (.d (.int r))) (z6 := some (.d (.str sg))) (z7 := some (.d (.list L))) (z8 := z8') (z9 := some (.d x)) (z10 := z10) (z11 := z11) (z12 := z12) h5
  obtain ⟨z11', μ5, e7, h7⟩ := s11_run hx hy (x0 := x0) (x1 := some (.c 0)) (z2 := z2) (z3 := some (.d (codeD cs))) (z4 := some (.d (.str (bS cs)))) (z5 := some (.d (.int r))) (z6 := some (.d (.str sg))) (z7 := some (.d (.list L))) (z8 := z8') (z11 := z11) (z12 := z12) h6
  exact ⟨_, _, _, _, _, _, _, _, _, μ5, (sCons_nx e1).trans ((s45_run hc).trans ((sCons_nx e2).trans ((sCons_nx e3).trans ((sCons_nx e4).trans ((sCons_nx e5).trans ((sCons_nx e6).trans e7)))))), h7⟩
theorem plain (ns : List Int) (hlen : ns.length ≤ 63) (hbits : ∀ z ∈ ns, Builtin.Int.intBits z ≤ 1048576) : ∃ μ, F_law [.d (.list (ns.map .int))] [] = .ok (.d (.bool true)) μ := by
  obtain ⟨ds, eh, hk⟩ := hand_ok ns []
  obtain ⟨ρ', μ', ef, ⟨z2, z3, z4, z5, z6, z7, z8, z9, z10, z11, z12, rfl⟩, hM⟩ := for_inv (b := stepS (gN 2) bodyL) (itm_rng 0 8) (fun i ρ μ => (∃ z2 z3 z4 z5 z6 z7 z8 z9 z10 z11 z12, ρ = [some (.d (.list (ns.map .int))), some (.c 0), z2, z3, z4, z5, z6, z7, z8, z9, z10, z11, z12]) ∧ HM μ) (fun i d ρ μ hd hI => by
    obtain ⟨⟨z2, z3, z4, z5, z6, z7, z8, z9, z10, z11, z12, rfl⟩, hM⟩ := hI
    obtain ⟨z3', z4', z5', z6', z7', z8', z9', z10', z11', μ', e, h'⟩ := body_run (x0 := some (.d (.list (ns.map .int)))) (z2 := some (.d d)) (z3 := z3) (z4 := z4) (z5 := z5) (z6 := z6) (z7 := z7) (z8 := z8) (z9 := z9) (z10 := z10) (z11 := z11) (z12 := z12) hM
    exact ⟨_, μ', by simp only [cV_, cK_, cBin_, cCall_, cCons_, cNil_, cH_, cD_, cA_, cT_, cIf_, cAndT_, cOrT_, cNotT_, cAndV_, cOrV_, cNotV_, cChain_, cSl_, cPart_, cNoPart_, cMt_, cIsi_, cNeg_, cFn_, sNil_, sCons_, sIf_, sSet_, sPar_, sExpr_, sRet_, sRetN_, sRaise_, sBrk_, sCnt_, sStore_, fnOf_, iAny_, iR1_, iR2_, iEn_, gN_, gT_, gsN_, gsC_, stepS_, cYes_, lcF_, bT, iP, isTy, tyName, opTup, opLst, opAdd, opII, cDivB, opMul, opOrd, opEq, kD_nn, kD_ii, kD_bb, kD_ss, kD_ni, kD_nb, kD_ns, kD_in, kD_bn, kD_sn, kD_is, kD_si, kD_bs, kD_sb, kD_tuple1, kD_tuple2, kD_list1, kD_list2, kD_ib, kD_bi, opIsN, opIx, opSl, one, fLen, fInt, fAbs, fTup, fList, see, hold, toD, adopt, Rs.bind, Rs.thenS, opStore, expo, itmOf, wipeR, mAppend, mExtend, List.getElem?_cons_zero, List.getElem?_cons_succ, List.map_cons, List.map_nil, List.length_cons, List.length_nil, List.cons_append, List.nil_append, List.replicate_succ, List.replicate_zero, List.set_cons_zero, List.set_cons_succ, Nat.zero_add, Nat.reduceAdd, Nat.reduceSub, ↓reduceIte, reduceCtorEq, String.reduceBEq, kb_NoneType_int, kb_NoneType_bool, kb_NoneType_str, kb_NoneType_tuple, kb_NoneType_list, kb_NoneType_dict, kb_bool_int, kb_bool_bool, kb_bool_str, kb_bool_tuple, kb_bool_list, kb_bool_dict, kb_int_int, kb_int_bool, kb_int_str, kb_int_tuple, kb_int_list, kb_int_dict, kb_str_int, kb_str_bool, kb_str_str, kb_str_tuple, kb_str_list, kb_str_dict, kb_list_int, kb_list_bool, kb_list_str, kb_list_tuple, kb_list_list, kb_list_dict, kb_tuple_int, kb_tuple_bool, kb_tuple_str, kb_tuple_tuple, kb_tuple_list, kb_tuple_dict, kb_dict_int, kb_dict_bool, kb_dict_str, kb_dict_tuple, kb_dict_list, kb_dict_dict, String.reduceEq, Int.reduceLT, Int.reduceLE, Int.reduceNeg, Int.reducePow, Nat.reducePow, Int.reduceToNat, Nat.reduceLT, Nat.reduceLeDiff, decide_true, decide_false, and_self, and_true, true_and, or_true, true_or, or_false, false_or, Bool.not_true, Bool.not_false, Bool.true_eq_false, Bool.false_eq_true, Option.map_some, Option.map_none]; exact e, ⟨_, _, _, _, _, _, _, _, _, _, _, rfl⟩, h'⟩)
    (ρ := [some (.d (.list (ns.map .int))), some (.c 0), none, none, none, none, none, none, none, none, none, none, none]) (μ := [.lst ds]) ⟨⟨_, _, _, _, _, _, _, _, _, _, _, rfl⟩, ds, rfl, hk⟩
  have hfor : sFor (iR1 (cK (.int 8))) (gN 2) bodyL [some (.d (.list (ns.map .int))), some (.c 0), none, none, none, none, none, none, none, none, none, none, none] [.lst ds] = _ := (sFor_eq (itm_rng 0 8) (μ1 := [.lst ds]) (by simp only [cV_, cK_, cBin_, cCall_, cCons_, cNil_, cH_, cD_, cA_, cT_, cIf_, cAndT_, cOrT_, cNotT_, cAndV_, cOrV_, cNotV_, cChain_, cSl_, cPart_, cNoPart_, cMt_, cIsi_, cNeg_, cFn_, sNil_, sCons_, sIf_, sSet_, sPar_, sExpr_, sRet_, sRetN_, sRaise_, sBrk_, sCnt_, sStore_, fnOf_, iAny_, iR1_, iR2_, iEn_, gN_, gT_, gsN_, gsC_, stepS_, cYes_, lcF_, bT, iP, isTy, tyName, opTup, opLst, opAdd, opII, cDivB, opMul, opOrd, opEq, kD_nn, kD_ii, kD_bb, kD_ss, kD_ni, kD_nb, kD_ns, kD_in, kD_bn, kD_sn, kD_is, kD_si, kD_bs, kD_sb, kD_tuple1, kD_tuple2, kD_list1, kD_list2, kD_ib, kD_bi, opIsN, opIx, opSl, one, fLen, fInt, fAbs, fTup, fList, see, hold, toD, adopt, Rs.bind, Rs.thenS, opStore, expo, itmOf, wipeR, mAppend, mExtend, List.getElem?_cons_zero, List.getElem?_cons_succ, List.map_cons, List.map_nil, List.length_cons, List.length_nil, List.cons_append, List.nil_append, List.replicate_succ, List.replicate_zero, List.set_cons_zero, List.set_cons_succ, Nat.zero_add, Nat.reduceAdd, Nat.reduceSub, ↓reduceIte, reduceCtorEq, String.reduceBEq, kb_NoneType_int, kb_NoneType_bool, kb_NoneType_str, kb_NoneType_tuple, kb_NoneType_list, kb_NoneType_dict, kb_bool_int, kb_bool_bool, kb_bool_str, kb_bool_tuple, kb_bool_list, kb_bool_dict, kb_int_int, kb_int_bool, kb_int_str, kb_int_tuple, kb_int_list, kb_int_dict, kb_str_int, kb_str_bool, kb_str_str, kb_str_tuple, kb_str_list, kb_str_dict, kb_list_int, kb_list_bool, kb_list_str, kb_list_tuple, kb_list_list, kb_list_dict, kb_tuple_int, kb_tuple_bool, kb_tuple_str, kb_tuple_tuple, kb_tuple_list, kb_tuple_dict, kb_dict_int, kb_dict_bool, kb_dict_str, kb_dict_tuple, kb_dict_list, kb_dict_dict, String.reduceEq, Int.reduceLT, Int.reduceLE, Int.reduceNeg, Int.reducePow, Nat.reducePow, Int.reduceToNat, Nat.reduceLT, Nat.reduceLeDiff, decide_true, decide_false, and_self, and_true, true_and, or_true, true_or, or_false, false_or, Bool.not_true, Bool.not_false, Bool.true_eq_false, Bool.false_eq_true, Option.map_some, Option.map_none])).trans ef
  have k1 : 1 ≤ sizeLine := by decide
  have k2 : 2 ≤ sizeLine := by decide
  have b1 := beats_of_ok (cs := [2, 1]) (by decide)
  have b1' : (bS [2, 1] == ("10100010" : Str)) = true := by decide +kernel
  have b2 := code_ok (t := "1000") (by unfold bits; decide +kernel) (by decide)
  have b2' : readD "1000" = .none := by unfold readD; exact if_neg (by decide +kernel)
  have b3 := code_ok (t := "10") (by unfold bits; decide +kernel) (by decide)
  have b3' : readD "10" = .tuple [.int 1] := by
    have : ("10" : Str) = bS [1] := by decide +kernel
    rw [this, readD_bS (by decide)]
    rfl
  rw [b2'] at b2
  rw [b3'] at b3
  have q' : PyData.eqvAll [.int 1] [.int 1] = true := by decide +kernel
  have q : PyData.eqv (.tuple [.int 1]) (.tuple [.int 1]) = true ∧ SeqAt.shaped (.tuple [.int 1]) = true := by decide +kernel
  unfold codeD at b1
  simp only [List.map_cons, List.map_nil] at b1
  refine ⟨μ'.take 0, ?_⟩
  simp only [F_law, law_body, cV_, cK_, cBin_, cCall_, cCons_, cNil_, cH_, cD_, cA_, cT_, cIf_, cAndT_, cOrT_, cNotT_, cAndV_, cOrV_, cNotV_, cChain_, cSl_, cPart_, cNoPart_, cMt_, cIsi_, cNeg_, cFn_, sNil_, sCons_, sIf_, sSet_, sPar_, sExpr_, sRet_, sRetN_, sRaise_, sBrk_, sCnt_, sStore_, fnOf_, iAny_, iR1_, iR2_, iEn_, gN_, gT_, gsN_, gsC_, stepS_, cYes_, lcF_, bT, iP, isTy, tyName, opTup, opLst, opAdd, opII, cDivB, opMul, opOrd, opEq, kD_nn, kD_ii, kD_bb, kD_ss, kD_ni, kD_nb, kD_ns, kD_in, kD_bn, kD_sn, kD_is, kD_si, kD_bs, kD_sb, kD_tuple1, kD_tuple2, kD_list1, kD_list2, kD_ib, kD_bi, opIsN, opIx, opSl, one, fLen, fInt, fAbs, fTup, fList, see, hold, toD, adopt, Rs.bind, Rs.thenS, opStore, expo, itmOf, wipeR, mAppend, mExtend, List.getElem?_cons_zero, List.getElem?_cons_succ, List.map_cons, List.map_nil, List.length_cons, List.length_nil, List.cons_append, List.nil_append, List.replicate_succ, List.replicate_zero, List.set_cons_zero, List.set_cons_succ, Nat.zero_add, Nat.reduceAdd, Nat.reduceSub, ↓reduceIte, reduceCtorEq, String.reduceBEq, kb_NoneType_int, kb_NoneType_bool, kb_NoneType_str, kb_NoneType_tuple, kb_NoneType_list, kb_NoneType_dict, kb_bool_int, kb_bool_bool, kb_bool_str, kb_bool_tuple, kb_bool_list, kb_bool_dict, kb_int_int, kb_int_bool, kb_int_str, kb_int_tuple, kb_int_list, kb_int_dict, kb_str_int, kb_str_bool, kb_str_str, kb_str_tuple, kb_str_list, kb_str_dict, kb_list_int, kb_list_bool, kb_list_str, kb_list_tuple, kb_list_list, kb_list_dict, kb_tuple_int, kb_tuple_bool, kb_tuple_str, kb_tuple_tuple, kb_tuple_list, kb_tuple_dict, kb_dict_int, kb_dict_bool, kb_dict_str, kb_dict_tuple, kb_dict_list, kb_dict_dict, String.reduceEq, Int.reduceLT, Int.reduceLE, Int.reduceNeg, Int.reducePow, Nat.reducePow, Int.reduceToNat, Nat.reduceLT, Nat.reduceLeDiff, decide_true, decide_false, and_self, and_true, true_and, or_true, true_or, or_false, false_or, Bool.not_true, Bool.not_false, Bool.true_eq_false, Bool.false_eq_true, Option.map_some, Option.map_none, eh, List.length_nil, List.nil_append, hfor, List.mapM_cons, List.mapM_nil, Option.bind_eq_bind, Option.bind_some, Option.pure_def, if_pos k1, if_pos k2]
  have b1'' : ∀ μ, F_beats_of [.d (.tuple [.int 2, .int 1])] μ = .ok (.d (.str (bS [2, 1]))) μ := b1
  simp only [b1'', cV_, cK_, cBin_, cCall_, cCons_, cNil_, cH_, cD_, cA_, cT_, cIf_, cAndT_, cOrT_, cNotT_, cAndV_, cOrV_, cNotV_, cChain_, cSl_, cPart_, cNoPart_, cMt_, cIsi_, cNeg_, cFn_, sNil_, sCons_, sIf_, sSet_, sPar_, sExpr_, sRet_, sRetN_, sRaise_, sBrk_, sCnt_, sStore_, fnOf_, iAny_, iR1_, iR2_, iEn_, gN_, gT_, gsN_, gsC_, stepS_, cYes_, lcF_, bT, iP, isTy, tyName, opTup, opLst, opAdd, opII, cDivB, opMul, opOrd, opEq, kD_nn, kD_ii, kD_bb, kD_ss, kD_ni, kD_nb, kD_ns, kD_in, kD_bn, kD_sn, kD_is, kD_si, kD_bs, kD_sb, kD_tuple1, kD_tuple2, kD_list1, kD_list2, kD_ib, kD_bi, opIsN, opIx, opSl, one, fLen, fInt, fAbs, fTup, fList, see, hold, toD, adopt, Rs.bind, Rs.thenS, opStore, expo, itmOf, wipeR, mAppend, mExtend, List.getElem?_cons_zero, List.getElem?_cons_succ, List.map_cons, List.map_nil, List.length_cons, List.length_nil, List.cons_append, List.nil_append, List.replicate_succ, List.replicate_zero, List.set_cons_zero, List.set_cons_succ, Nat.zero_add, Nat.reduceAdd, Nat.reduceSub, ↓reduceIte, reduceCtorEq, String.reduceBEq, kb_NoneType_int, kb_NoneType_bool, kb_NoneType_str, kb_NoneType_tuple, kb_NoneType_list, kb_NoneType_dict, kb_bool_int, kb_bool_bool, kb_bool_str, kb_bool_tuple, kb_bool_list, kb_bool_dict, kb_int_int, kb_int_bool, kb_int_str, kb_int_tuple, kb_int_list, kb_int_dict, kb_str_int, kb_str_bool, kb_str_str, kb_str_tuple, kb_str_list, kb_str_dict, kb_list_int, kb_list_bool, kb_list_str, kb_list_tuple, kb_list_list, kb_list_dict, kb_tuple_int, kb_tuple_bool, kb_tuple_str, kb_tuple_tuple, kb_tuple_list, kb_tuple_dict, kb_dict_int, kb_dict_bool, kb_dict_str, kb_dict_tuple, kb_dict_list, kb_dict_dict, String.reduceEq, Int.reduceLT, Int.reduceLE, Int.reduceNeg, Int.reducePow, Nat.reducePow, Int.reduceToNat, Nat.reduceLT, Nat.reduceLeDiff, decide_true, decide_false, and_self, and_true, true_and, or_true, true_or, or_false, false_or, Bool.not_true, Bool.not_false, Bool.true_eq_false, Bool.false_eq_true, Option.map_some, Option.map_none, PyData.eqv, b1', b2, b3, opIsN, q, q']
end L52
namespace L52
open PySem PySem.Spec PyProof.Rows L2 Em
theorem all_mk {q : Program} {loose : List Str} {mean : ExcName → Option Value} {mg mb : Str → Option Value} {h : Heap} {w : World} {K : PySem.W.Frag} {fa : Addr} {dr : DefRec} {l : PySem.W.OpenLaw} (T : Top q loose mean mg mb h) (X : K.In h) (hfa : mg "law" = some (.ref fa))
    {A_law_hand : Addr} {od_law_hand an_law_hand : Option Addr} {sl_law_hand : Array (Option Value)} {oc_law_hand kV_law_hand dc_law_hand pm_law_hand ct_law_hand : Value}
    {cd_law_hand : Value}
    {A_law_beats : Addr} {od_law_beats an_law_beats : Option Addr} {sl_law_beats : Array (Option Value)} {oc_law_beats kV_law_beats dc_law_beats pm_law_beats ct_law_beats : Value}
    {cd_law_beats : Value}
    {A_law_mixed : Addr} {od_law_mixed an_law_mixed : Option Addr} {sl_law_mixed : Array (Option Value)} {oc_law_mixed kV_law_mixed dc_law_mixed pm_law_mixed ct_law_mixed : Value}
    {cd_law_mixed : Value}
    {A_law_draw : Addr} {od_law_draw an_law_draw : Option Addr} {sl_law_draw : Array (Option Value)} {oc_law_draw kV_law_draw dc_law_draw pm_law_draw ct_law_draw : Value}
    {cd_law_draw : Value}
    {A_law_any : Addr} {od_law_any an_law_any : Option Addr} {sl_law_any : Array (Option Value)} {oc_law_any kV_law_any dc_law_any pm_law_any ct_law_any : Value}
    {cd_law_any : Value}
    {A_law_word_of : Addr} {od_law_word_of an_law_word_of : Option Addr} {sl_law_word_of : Array (Option Value)} {oc_law_word_of kV_law_word_of dc_law_word_of pm_law_word_of ct_law_word_of : Value}
    {cd_law_word_of : Value}
    {Araw_beats : Addr} {odraw_beats anraw_beats : Option Addr} {slraw_beats : Array (Option Value)} {ocraw_beats kVraw_beats dcraw_beats pmraw_beats ctraw_beats : Value}
    {cdraw_beats : Value}
    {Ais_sized : Addr} {odis_sized anis_sized : Option Addr} {slis_sized : Array (Option Value)} {ocis_sized kVis_sized dcis_sized pmis_sized ctis_sized : Value}
    {cdis_sized : Value}
    {Ais_integer : Addr} {odis_integer anis_integer : Option Addr} {slis_integer : Array (Option Value)} {ocis_integer kVis_integer dcis_integer pmis_integer ctis_integer : Value}
    {cdis_integer : Value}
    {Ais_within : Addr} {odis_within anis_within : Option Addr} {slis_within : Array (Option Value)} {ocis_within kVis_within dcis_within pmis_within ctis_within : Value}
    {cdis_within : Value}
    {Ais_code : Addr} {odis_code anis_code : Option Addr} {slis_code : Array (Option Value)} {ocis_code kVis_code dcis_code pmis_code ctis_code : Value}
    {cdis_code : Value}
    {Abeats_of : Addr} {odbeats_of anbeats_of : Option Addr} {slbeats_of : Array (Option Value)} {ocbeats_of kVbeats_of dcbeats_of pmbeats_of ctbeats_of : Value}
    {cdbeats_of : Value}
    {Ais_beats : Addr} {odis_beats anis_beats : Option Addr} {slis_beats : Array (Option Value)} {ocis_beats kVis_beats dcis_beats pmis_beats ctis_beats : Value}
    {cdis_beats : Value}
    {Acode_by_beats : Addr} {odcode_by_beats ancode_by_beats : Option Addr} {slcode_by_beats : Array (Option Value)} {occode_by_beats kVcode_by_beats dccode_by_beats pmcode_by_beats ctcode_by_beats : Value}
    {cdcode_by_beats : Value}
    {A_law_read : Addr} {od_law_read an_law_read : Option Addr} {sl_law_read : Array (Option Value)} {oc_law_read kV_law_read dc_law_read pm_law_read ct_law_read : Value}
    {cd_law_read : Value}
    {Alaw : Addr} {odlaw anlaw : Option Addr} {sllaw : Array (Option Value)} {oclaw kVlaw dclaw pmlaw ctlaw : Value}
    {c Pt : Addr} {oc2 : Value} {od2 : Option Addr} {osl2 : Array (Option Value)} {vs : Array Value}
    {tMOST_NUMBERS : Tok}
    {tMOST_BEATS : Tok}
    {tMOST_TEXT : Tok}
    {tREST : Tok}
    {tBEAT : Tok}
    {CEmberError : Addr}
    {CNoText : Addr}
    {CNoCode : Addr}
    (a_law_hand : PySem.W.nsIn K mainGlobals "_law_hand" = some (some (.ref A_law_hand)))
    (l_law_hand : K.lookup A_law_hand = some ⟨oc_law_hand, od_law_hand, .func (PySem.W.fnOf "_law_hand" "_law_hand" (defArgs st__law_hand) (defBody st__law_hand) (defScope st__law_hand) .none kV_law_hand dc_law_hand pm_law_hand an_law_hand cd_law_hand ct_law_hand), sl_law_hand⟩)
    (c_law_hand : PySem.W.codeIn K cd_law_hand "_law_hand" = true)
    (k_law_hand : PySem.W.keepIn K (.ref A_law_hand) = true)
    (a_law_beats : PySem.W.nsIn K mainGlobals "_law_beats" = some (some (.ref A_law_beats)))
    (l_law_beats : K.lookup A_law_beats = some ⟨oc_law_beats, od_law_beats, .func (PySem.W.fnOf "_law_beats" "_law_beats" (defArgs st__law_beats) (defBody st__law_beats) (defScope st__law_beats) .none kV_law_beats dc_law_beats pm_law_beats an_law_beats cd_law_beats ct_law_beats), sl_law_beats⟩)
    (c_law_beats : PySem.W.codeIn K cd_law_beats "_law_beats" = true)
    (k_law_beats : PySem.W.keepIn K (.ref A_law_beats) = true)
    (a_law_mixed : PySem.W.nsIn K mainGlobals "_law_mixed" = some (some (.ref A_law_mixed)))
    (l_law_mixed : K.lookup A_law_mixed = some ⟨oc_law_mixed, od_law_mixed, .func (PySem.W.fnOf "_law_mixed" "_law_mixed" (defArgs st__law_mixed) (defBody st__law_mixed) (defScope st__law_mixed) .none kV_law_mixed dc_law_mixed pm_law_mixed an_law_mixed cd_law_mixed ct_law_mixed), sl_law_mixed⟩)
    (c_law_mixed : PySem.W.codeIn K cd_law_mixed "_law_mixed" = true)
    (k_law_mixed : PySem.W.keepIn K (.ref A_law_mixed) = true)
    (a_law_draw : PySem.W.nsIn K mainGlobals "_law_draw" = some (some (.ref A_law_draw)))
    (l_law_draw : K.lookup A_law_draw = some ⟨oc_law_draw, od_law_draw, .func (PySem.W.fnOf "_law_draw" "_law_draw" (defArgs st__law_draw) (defBody st__law_draw) (defScope st__law_draw) .none kV_law_draw dc_law_draw pm_law_draw an_law_draw cd_law_draw ct_law_draw), sl_law_draw⟩)
    (c_law_draw : PySem.W.codeIn K cd_law_draw "_law_draw" = true)
    (k_law_draw : PySem.W.keepIn K (.ref A_law_draw) = true)
    (a_law_any : PySem.W.nsIn K mainGlobals "_law_any" = some (some (.ref A_law_any)))
    (l_law_any : K.lookup A_law_any = some ⟨oc_law_any, od_law_any, .func (PySem.W.fnOf "_law_any" "_law_any" (defArgs st__law_any) (defBody st__law_any) (defScope st__law_any) .none kV_law_any dc_law_any pm_law_any an_law_any cd_law_any ct_law_any), sl_law_any⟩)
    (c_law_any : PySem.W.codeIn K cd_law_any "_law_any" = true)
    (k_law_any : PySem.W.keepIn K (.ref A_law_any) = true)
    (a_law_word_of : PySem.W.nsIn K mainGlobals "_law_word_of" = some (some (.ref A_law_word_of)))
    (l_law_word_of : K.lookup A_law_word_of = some ⟨oc_law_word_of, od_law_word_of, .func (PySem.W.fnOf "_law_word_of" "_law_word_of" (defArgs st__law_word_of) (defBody st__law_word_of) (defScope st__law_word_of) .none kV_law_word_of dc_law_word_of pm_law_word_of an_law_word_of cd_law_word_of ct_law_word_of), sl_law_word_of⟩)
    (c_law_word_of : PySem.W.codeIn K cd_law_word_of "_law_word_of" = true)
    (k_law_word_of : PySem.W.keepIn K (.ref A_law_word_of) = true)
    (araw_beats : PySem.W.nsIn K mainGlobals "raw_beats" = some (some (.ref Araw_beats)))
    (lraw_beats : K.lookup Araw_beats = some ⟨ocraw_beats, odraw_beats, .func (PySem.W.fnOf "raw_beats" "raw_beats" (defArgs st_raw_beats) (defBody st_raw_beats) (defScope st_raw_beats) .none kVraw_beats dcraw_beats pmraw_beats anraw_beats cdraw_beats ctraw_beats), slraw_beats⟩)
    (craw_beats : PySem.W.codeIn K cdraw_beats "raw_beats" = true)
    (kraw_beats : PySem.W.keepIn K (.ref Araw_beats) = true)
    (ais_sized : PySem.W.nsIn K mainGlobals "is_sized" = some (some (.ref Ais_sized)))
    (lis_sized : K.lookup Ais_sized = some ⟨ocis_sized, odis_sized, .func (PySem.W.fnOf "is_sized" "is_sized" (defArgs st_is_sized) (defBody st_is_sized) (defScope st_is_sized) .none kVis_sized dcis_sized pmis_sized anis_sized cdis_sized ctis_sized), slis_sized⟩)
    (cis_sized : PySem.W.codeIn K cdis_sized "is_sized" = true)
    (kis_sized : PySem.W.keepIn K (.ref Ais_sized) = true)
    (ais_integer : PySem.W.nsIn K mainGlobals "is_integer" = some (some (.ref Ais_integer)))
    (lis_integer : K.lookup Ais_integer = some ⟨ocis_integer, odis_integer, .func (PySem.W.fnOf "is_integer" "is_integer" (defArgs st_is_integer) (defBody st_is_integer) (defScope st_is_integer) .none kVis_integer dcis_integer pmis_integer anis_integer cdis_integer ctis_integer), slis_integer⟩)
    (cis_integer : PySem.W.codeIn K cdis_integer "is_integer" = true)
    (kis_integer : PySem.W.keepIn K (.ref Ais_integer) = true)
    (ais_within : PySem.W.nsIn K mainGlobals "is_within" = some (some (.ref Ais_within)))
    (lis_within : K.lookup Ais_within = some ⟨ocis_within, odis_within, .func (PySem.W.fnOf "is_within" "is_within" (defArgs st_is_within) (defBody st_is_within) (defScope st_is_within) .none kVis_within dcis_within pmis_within anis_within cdis_within ctis_within), slis_within⟩)
    (cis_within : PySem.W.codeIn K cdis_within "is_within" = true)
    (kis_within : PySem.W.keepIn K (.ref Ais_within) = true)
    (ais_code : PySem.W.nsIn K mainGlobals "is_code" = some (some (.ref Ais_code)))
    (lis_code : K.lookup Ais_code = some ⟨ocis_code, odis_code, .func (PySem.W.fnOf "is_code" "is_code" (defArgs st_is_code) (defBody st_is_code) (defScope st_is_code) .none kVis_code dcis_code pmis_code anis_code cdis_code ctis_code), slis_code⟩)
    (cis_code : PySem.W.codeIn K cdis_code "is_code" = true)
    (kis_code : PySem.W.keepIn K (.ref Ais_code) = true)
    (abeats_of : PySem.W.nsIn K mainGlobals "beats_of" = some (some (.ref Abeats_of)))
    (lbeats_of : K.lookup Abeats_of = some ⟨ocbeats_of, odbeats_of, .func (PySem.W.fnOf "beats_of" "beats_of" (defArgs st_beats_of) (defBody st_beats_of) (defScope st_beats_of) .none kVbeats_of dcbeats_of pmbeats_of anbeats_of cdbeats_of ctbeats_of), slbeats_of⟩)
    (cbeats_of : PySem.W.codeIn K cdbeats_of "beats_of" = true)
    (kbeats_of : PySem.W.keepIn K (.ref Abeats_of) = true)
    (ais_beats : PySem.W.nsIn K mainGlobals "is_beats" = some (some (.ref Ais_beats)))
    (lis_beats : K.lookup Ais_beats = some ⟨ocis_beats, odis_beats, .func (PySem.W.fnOf "is_beats" "is_beats" (defArgs st_is_beats) (defBody st_is_beats) (defScope st_is_beats) .none kVis_beats dcis_beats pmis_beats anis_beats cdis_beats ctis_beats), slis_beats⟩)
    (cis_beats : PySem.W.codeIn K cdis_beats "is_beats" = true)
    (kis_beats : PySem.W.keepIn K (.ref Ais_beats) = true)
    (acode_by_beats : PySem.W.nsIn K mainGlobals "code_by_beats" = some (some (.ref Acode_by_beats)))
    (lcode_by_beats : K.lookup Acode_by_beats = some ⟨occode_by_beats, odcode_by_beats, .func (PySem.W.fnOf "code_by_beats" "code_by_beats" (defArgs st_code_by_beats) (defBody st_code_by_beats) (defScope st_code_by_beats) .none kVcode_by_beats dccode_by_beats pmcode_by_beats ancode_by_beats cdcode_by_beats ctcode_by_beats), slcode_by_beats⟩)
    (ccode_by_beats : PySem.W.codeIn K cdcode_by_beats "code_by_beats" = true)
    (kcode_by_beats : PySem.W.keepIn K (.ref Acode_by_beats) = true)
    (a_law_read : PySem.W.nsIn K mainGlobals "_law_read" = some (some (.ref A_law_read)))
    (l_law_read : K.lookup A_law_read = some ⟨oc_law_read, od_law_read, .func (PySem.W.fnOf "_law_read" "_law_read" (defArgs st__law_read) (defBody st__law_read) (defScope st__law_read) .none kV_law_read dc_law_read pm_law_read an_law_read cd_law_read ct_law_read), sl_law_read⟩)
    (c_law_read : PySem.W.codeIn K cd_law_read "_law_read" = true)
    (k_law_read : PySem.W.keepIn K (.ref A_law_read) = true)
    (alaw : PySem.W.nsIn K mainGlobals "law" = some (some (.ref Alaw)))
    (llaw : K.lookup Alaw = some ⟨oclaw, odlaw, .func (PySem.W.fnOf "law" "law" (defArgs st_law) (defBody st_law) (defScope st_law) .none kVlaw dclaw pmlaw anlaw (.ref c) ctlaw), sllaw⟩)
    (claw : PySem.W.codeIn K (.ref c) "law" = true)
    (klaw : PySem.W.keepIn K (.ref Alaw) = true)
    (lc2 : K.lookup c = some ⟨oc2, od2, .fields vs, osl2⟩)
    (hv2 : vs[11]? = some (.ref Pt))
    (nP2 : K.lookup Pt = none)
    (hrec : (recsOf q).find? (fun e => e.name == ("law" : Str)) = some dr)
    (hL : noListK K = true)
    (zint : PySem.W.nsIn K mainGlobals "int" = some none)
    (zlen : PySem.W.nsIn K mainGlobals "len" = some none)
    (zabs : PySem.W.nsIn K mainGlobals "abs" = some none)
    (zisinstance : PySem.W.nsIn K mainGlobals "isinstance" = some none)
    (ztuple : PySem.W.nsIn K mainGlobals "tuple" = some none)
    (zbool : PySem.W.nsIn K mainGlobals "bool" = some none)
    (zall : PySem.W.nsIn K mainGlobals "all" = some none)
    (zstr : PySem.W.nsIn K mainGlobals "str" = some none)
    (zmax : PySem.W.nsIn K mainGlobals "max" = some none)
    (zrange : PySem.W.nsIn K mainGlobals "range" = some none)
    (iMOST_NUMBERS : PySem.W.nsIn K mainGlobals "MOST_NUMBERS" = some (some (.int 4 tMOST_NUMBERS)))
    (iMOST_BEATS : PySem.W.nsIn K mainGlobals "MOST_BEATS" = some (some (.int 9 tMOST_BEATS)))
    (iMOST_TEXT : PySem.W.nsIn K mainGlobals "MOST_TEXT" = some (some (.int 400 tMOST_TEXT)))
    (sREST : PySem.W.nsIn K mainGlobals "REST" = some (some (.str "00" tREST)))
    (sBEAT : PySem.W.nsIn K mainGlobals "BEAT" = some (some (.str "10" tBEAT)))
    (eaEmberError : PySem.W.nsIn K mainGlobals "EmberError" = some (some (.ref CEmberError)))
    (eqEmberError : PySem.W.excIn K CEmberError [.type "ValueError", .type "Exception", .type "BaseException", .type "object"] "ValueError.__new__" = true)
    (ekEmberError : PySem.W.keepIn K (.ref CEmberError) = true)
    (ebEmberError : PySem.W.subIn K (.ref CEmberError) (.type "BaseException") = some true)
    (etEmberError : PySem.W.typeIn K (.ref CEmberError) = some (.type "type"))
    (eaNoText : PySem.W.nsIn K mainGlobals "NoText" = some (some (.ref CNoText)))
    (eqNoText : PySem.W.excIn K CNoText [.type "ValueError", .type "Exception", .type "BaseException", .type "object"] "ValueError.__new__" = true)
    (ekNoText : PySem.W.keepIn K (.ref CNoText) = true)
    (ebNoText : PySem.W.subIn K (.ref CNoText) (.type "BaseException") = some true)
    (etNoText : PySem.W.typeIn K (.ref CNoText) = some (.type "type"))
    (eaNoCode : PySem.W.nsIn K mainGlobals "NoCode" = some (some (.ref CNoCode)))
    (eqNoCode : PySem.W.excIn K CNoCode [.type "ValueError", .type "Exception", .type "BaseException", .type "object"] "ValueError.__new__" = true)
    (ekNoCode : PySem.W.keepIn K (.ref CNoCode) = true)
    (ebNoCode : PySem.W.subIn K (.ref CNoCode) (.type "BaseException") = some true)
    (etNoCode : PySem.W.typeIn K (.ref CNoCode) = some (.type "type"))
    (u0 : PySem.W.exmOne K (.ref CEmberError) (.ref CNoCode) = some false)
    (u1 : PySem.W.exmOne K (.ref CEmberError) (.ref CNoText) = some false)
    (u2 : PySem.W.exmOne K (.ref CEmberError) (.ref CEmberError) = some true)
    (u3 : PySem.W.exmOne K (.ref CNoText) (.ref CNoCode) = some false)
    (u4 : PySem.W.exmOne K (.ref CNoText) (.ref CNoText) = some true)
    (u5 : PySem.W.exmOne K (.ref CNoText) (.ref CEmberError) = some true)
    (u6 : PySem.W.exmOne K (.ref CNoCode) (.ref CNoCode) = some true)
    (u7 : PySem.W.exmOne K (.ref CNoCode) (.ref CNoText) = some false)
    (u8 : PySem.W.exmOne K (.ref CNoCode) (.ref CEmberError) = some true)
    (plain : ∀ ns : List Int, ns.length ≤ 63 → (∀ z ∈ ns, Builtin.Int.intBits z ≤ 1048576) → ∃ μ, F_law [.d (.list (ns.map .int))] [] = .ok (.d (.bool true)) μ) :
    LamX.LawAtS l w K (L2.CX l.prog w) 7 63 "script" mg fa h := by
  have N := T.g
  have e := hfa.symm.trans (PySem.W.mg_of X N alaw)
  cases e
  have g : G mg := ⟨PySem.W.mg_none_of X N zint, PySem.W.mg_none_of X N zlen, PySem.W.mg_none_of X N zabs, PySem.W.mg_none_of X N zisinstance, PySem.W.mg_none_of X N ztuple, PySem.W.mg_none_of X N zbool, PySem.W.mg_none_of X N zall, PySem.W.mg_none_of X N zstr, PySem.W.mg_none_of X N zmax, PySem.W.mg_none_of X N zrange, ⟨_, PySem.W.mg_of X N iMOST_NUMBERS⟩, ⟨_, PySem.W.mg_of X N iMOST_BEATS⟩, ⟨_, PySem.W.mg_of X N iMOST_TEXT⟩, ⟨_, PySem.W.mg_of X N sREST⟩, ⟨_, PySem.W.mg_of X N sBEAT⟩⟩
  have e_EmberError : Exc0 K mg "EmberError" := ⟨CEmberError, PySem.W.mg_of X N eaEmberError, eqEmberError, ekEmberError, ebEmberError, etEmberError⟩
  have e_NoText : Exc0 K mg "NoText" := ⟨CNoText, PySem.W.mg_of X N eaNoText, eqNoText, ekNoText, ebNoText, etNoText⟩
  have e_NoCode : Exc0 K mg "NoCode" := ⟨CNoCode, PySem.W.mg_of X N eaNoCode, eqNoCode, ekNoCode, ebNoCode, etNoCode⟩
  have hsub : SubOk K mg sub := by
    refine subF_ok ?_
    intro e he
    simp only [subL, List.mem_cons, List.not_mem_nil, or_false] at he
    rcases he with rfl | rfl | rfl | rfl | rfl | rfl | rfl | rfl | rfl
    · exact sub_one (PySem.W.mg_of X N eaEmberError) (PySem.W.mg_of X N eaNoCode) u0
    · exact sub_one (PySem.W.mg_of X N eaEmberError) (PySem.W.mg_of X N eaNoText) u1
    · exact sub_one (PySem.W.mg_of X N eaEmberError) (PySem.W.mg_of X N eaEmberError) u2
    · exact sub_one (PySem.W.mg_of X N eaNoText) (PySem.W.mg_of X N eaNoCode) u3
    · exact sub_one (PySem.W.mg_of X N eaNoText) (PySem.W.mg_of X N eaNoText) u4
    · exact sub_one (PySem.W.mg_of X N eaNoText) (PySem.W.mg_of X N eaEmberError) u5
    · exact sub_one (PySem.W.mg_of X N eaNoCode) (PySem.W.mg_of X N eaNoCode) u6
    · exact sub_one (PySem.W.mg_of X N eaNoCode) (PySem.W.mg_of X N eaNoText) u7
    · exact sub_one (PySem.W.mg_of X N eaNoCode) (PySem.W.mg_of X N eaEmberError) u8
  obtain ⟨hC, hP⟩ := PySem.W.tab_of T X hrec (tabIn_mk alaw llaw rfl lc2 hv2)
  have F_law_hand := fun_mk (st := st__law_hand) l_law_hand c_law_hand k_law_hand
  have b_law_hand := F_law_hand.binds (ps := ["script"]) fun _ _ _ _ _ _ us hl => match us, hl with | [_], _ => rfl
  have F_law_beats := fun_mk (st := st__law_beats) l_law_beats c_law_beats k_law_beats
  have b_law_beats := F_law_beats.binds (ps := ["code"]) fun _ _ _ _ _ _ us hl => match us, hl with | [_], _ => rfl
  have F_law_mixed := fun_mk (st := st__law_mixed) l_law_mixed c_law_mixed k_law_mixed
  have b_law_mixed := F_law_mixed.binds (ps := ["cell", "turn"]) fun _ _ _ _ _ _ us hl => match us, hl with | [_, _], _ => rfl
  have F_law_draw := fun_mk (st := st__law_draw) l_law_draw c_law_draw k_law_draw
  have b_law_draw := F_law_draw.binds (ps := ["hand", "many"]) fun _ _ _ _ _ _ us hl => match us, hl with | [_, _], _ => rfl
  have F_law_any := fun_mk (st := st__law_any) l_law_any c_law_any k_law_any
  have b_law_any := F_law_any.binds (ps := ["hand", "some"]) fun _ _ _ _ _ _ us hl => match us, hl with | [_, _], _ => rfl
  have F_law_word_of := fun_mk (st := st__law_word_of) l_law_word_of c_law_word_of k_law_word_of
  have b_law_word_of := F_law_word_of.binds (ps := ["call"]) fun _ _ _ _ _ _ us hl => match us, hl with | [_], _ => rfl
  have Fraw_beats := fun_mk (st := st_raw_beats) lraw_beats craw_beats kraw_beats
  have braw_beats := Fraw_beats.binds (ps := ["code"]) fun _ _ _ _ _ _ us hl => match us, hl with | [_], _ => rfl
  have Fis_sized := fun_mk (st := st_is_sized) lis_sized cis_sized kis_sized
  have bis_sized := Fis_sized.binds (ps := ["thing", "low", "high"]) fun _ _ _ _ _ _ us hl => match us, hl with | [_, _, _], _ => rfl
  have Fis_integer := fun_mk (st := st_is_integer) lis_integer cis_integer kis_integer
  have bis_integer := Fis_integer.binds (ps := ["thing"]) fun _ _ _ _ _ _ us hl => match us, hl with | [_], _ => rfl
  have Fis_within := fun_mk (st := st_is_within) lis_within cis_within kis_within
  have bis_within := Fis_within.binds (ps := ["thing", "low", "high"]) fun _ _ _ _ _ _ us hl => match us, hl with | [_, _, _], _ => rfl
  have Fis_code := fun_mk (st := st_is_code) lis_code cis_code kis_code
  have bis_code := Fis_code.binds (ps := ["thing"]) fun _ _ _ _ _ _ us hl => match us, hl with | [_], _ => rfl
  have Fbeats_of := fun_mk (st := st_beats_of) lbeats_of cbeats_of kbeats_of
  have bbeats_of := Fbeats_of.binds (ps := ["code"]) fun _ _ _ _ _ _ us hl => match us, hl with | [_], _ => rfl
  have Fis_beats := fun_mk (st := st_is_beats) lis_beats cis_beats kis_beats
  have bis_beats := Fis_beats.binds (ps := ["thing"]) fun _ _ _ _ _ _ us hl => match us, hl with | [_], _ => rfl
  have Fcode_by_beats := fun_mk (st := st_code_by_beats) lcode_by_beats ccode_by_beats kcode_by_beats
  have bcode_by_beats := Fcode_by_beats.binds (ps := ["text"]) fun _ _ _ _ _ _ us hl => match us, hl with | [_], _ => rfl
  have F_law_read := fun_mk (st := st__law_read) l_law_read c_law_read k_law_read
  have b_law_read := F_law_read.binds (ps := ["text"]) fun _ _ _ _ _ _ us hl => match us, hl with | [_], _ => rfl
  refine ⟨PySem.W.fnOf "law" "law" (defArgs st_law) (defBody st_law) (defScope st_law) .none kVlaw dclaw pmlaw anlaw (.ref c) ctlaw, [(c, Pt)], spOf (tb0 [(Pt, lamQ "law")]) K mg 1 F_law, ?_, ?_, ?_, fun s u => .of_eq rfl, fun H a ns hlen hbits hH hS => sp_end hL ?_ hH hS (plain ns hlen hbits), fun base _ _ TB => ?_⟩
  · intro p hp; simp only [List.mem_singleton] at hp; subst hp; exact hP
  · intro p hp; simp only [List.mem_singleton] at hp; subst hp; exact nP2
  · intro p hp; simp only [List.mem_singleton] at hp; subst hp; exact hC
  · intro p hp; simp only [List.mem_singleton] at hp; subst hp; exact ⟨c, List.mem_singleton.mpr rfl⟩
  have G__law_hand := ok__law_hand (P := l.prog) (w := w) (base := base) (T := tb0 [(Pt, lamQ "law")]) g F_law_hand (PySem.W.mg_of X N a_law_hand) b_law_hand
  have G__law_beats := ok__law_beats (P := l.prog) (w := w) (base := base) (T := tb0 [(Pt, lamQ "law")]) g F_law_beats (PySem.W.mg_of X N a_law_beats) b_law_beats
  have G__law_mixed := ok__law_mixed (P := l.prog) (w := w) (base := base) (T := tb0 [(Pt, lamQ "law")]) g F_law_mixed (PySem.W.mg_of X N a_law_mixed) b_law_mixed
  have G__law_draw := ok__law_draw (P := l.prog) (w := w) (base := base) (T := tb0 [(Pt, lamQ "law")]) g F_law_draw (PySem.W.mg_of X N a_law_draw) b_law_draw G__law_mixed
  have G__law_any := ok__law_any (P := l.prog) (w := w) (base := base) (T := tb0 [(Pt, lamQ "law")]) g F_law_any (PySem.W.mg_of X N a_law_any) b_law_any G__law_draw
  have G_raw_beats := ok_raw_beats (P := l.prog) (w := w) (base := base) (T := tb0 [(Pt, lamQ "law")]) g Fraw_beats (PySem.W.mg_of X N araw_beats) braw_beats
  have G_is_sized := ok_is_sized (P := l.prog) (w := w) (base := base) (T := tb0 [(Pt, lamQ "law")]) g Fis_sized (PySem.W.mg_of X N ais_sized) bis_sized
  have G_is_integer := ok_is_integer (P := l.prog) (w := w) (base := base) (T := tb0 [(Pt, lamQ "law")]) g Fis_integer (PySem.W.mg_of X N ais_integer) bis_integer
  have G_is_within := ok_is_within (P := l.prog) (w := w) (base := base) (T := tb0 [(Pt, lamQ "law")]) g Fis_within (PySem.W.mg_of X N ais_within) bis_within G_is_integer
  have G_is_code := ok_is_code (P := l.prog) (w := w) (base := base) (T := tb0 [(Pt, lamQ "law")]) g Fis_code (PySem.W.mg_of X N ais_code) bis_code G_is_sized G_is_within
  have G_beats_of := ok_beats_of (P := l.prog) (w := w) (base := base) (T := tb0 [(Pt, lamQ "law")]) g Fbeats_of (PySem.W.mg_of X N abeats_of) bbeats_of G_is_code G_raw_beats e_NoCode
  have G_is_beats := ok_is_beats (P := l.prog) (w := w) (base := base) (T := tb0 [(Pt, lamQ "law")]) g Fis_beats (PySem.W.mg_of X N ais_beats) bis_beats
  have G_code_by_beats := ok_code_by_beats (P := l.prog) (w := w) (base := base) (T := tb0 [(Pt, lamQ "law")]) g Fcode_by_beats (PySem.W.mg_of X N acode_by_beats) bcode_by_beats G_is_beats G_is_code G_raw_beats e_NoText
  have G__law_read := ok__law_read (P := l.prog) (w := w) (base := base) (T := tb0 [(Pt, lamQ "law")]) g F_law_read (PySem.W.mg_of X N a_law_read) b_law_read G__law_beats
  exact ok_law g G__law_hand G__law_draw G__law_beats G_beats_of G_code_by_beats G__law_any G__law_read e_EmberError e_NoText e_NoCode hsub (PySem.W.mg_of X N a_law_word_of) k_law_word_of l_law_word_of c_law_word_of b_law_word_of llaw claw (TB _ (List.mem_singleton.mpr rfl)) (List.mem_singleton.mpr rfl) (fun p hp _ => by simp only [tb0, List.mem_singleton] at hp; subst hp; rfl)
end L52
open PySem PySem.W PyProof.Rows
theorem PySem.Challenge.cw_emberhall_k52_whole_codes_and_their_beat_holds : PySem.Challenge.rw_emberhall_k52_whole_codes_and_their_beat.Holds := by
  w_on; o_law; k_head; (case hw => w_witness2)
  k_fill
  refine Em.walk_ofL (l := PySem.Challenge.rw_emberhall_k52_whole_codes_and_their_beat) (n := 63) (k := 7) (x := "script") rfl (by decide) rfl ⟨rfl, by decide, by decide⟩ (fun w h Y => by first | exact PySem.W.kIn_of Y | exact PySem.W.km_in_of Y) ?F
  case F =>
    intro w mg mb fa h mean T KX hmg
    refine' L52.all_mk T KX hmg ?a_law_hand ?l_law_hand ?c_law_hand ?k_law_hand ?a_law_beats ?l_law_beats ?c_law_beats ?k_law_beats ?a_law_mixed ?l_law_mixed ?c_law_mixed ?k_law_mixed ?a_law_draw ?l_law_draw ?c_law_draw ?k_law_draw ?a_law_any ?l_law_any ?c_law_any ?k_law_any ?a_law_word_of ?l_law_word_of ?c_law_word_of ?k_law_word_of ?araw_beats ?lraw_beats ?craw_beats ?kraw_beats ?ais_sized ?lis_sized ?cis_sized ?kis_sized ?ais_integer ?lis_integer ?cis_integer ?kis_integer ?ais_within ?lis_within ?cis_within ?kis_within ?ais_code ?lis_code ?cis_code ?kis_code ?abeats_of ?lbeats_of ?cbeats_of ?kbeats_of ?ais_beats ?lis_beats ?cis_beats ?kis_beats ?acode_by_beats ?lcode_by_beats ?ccode_by_beats ?kcode_by_beats ?a_law_read ?l_law_read ?c_law_read ?k_law_read ?alaw ?llaw ?claw ?klaw ?lc2 ?hv2 ?nP2 ?hrec ?hL ?zint ?zlen ?zabs ?zisinstance ?ztuple ?zbool ?zall ?zstr ?zmax ?zrange ?iMOST_NUMBERS ?iMOST_BEATS ?iMOST_TEXT ?sREST ?sBEAT ?eaEmberError ?eqEmberError ?ekEmberError ?ebEmberError ?etEmberError ?eaNoText ?eqNoText ?ekNoText ?ebNoText ?etNoText ?eaNoCode ?eqNoCode ?ekNoCode ?ebNoCode ?etNoCode ?u0 ?u1 ?u2 ?u3 ?u4 ?u5 ?u6 ?u7 ?u8 L52.plain
    (case a_law_hand => k_is); (case l_law_hand => k_is); (case c_law_hand => k_is); (case k_law_hand => k_is); (case a_law_beats => k_is); (case l_law_beats => k_is)
    (case c_law_beats => k_is); (case k_law_beats => k_is); (case a_law_mixed => k_is); (case l_law_mixed => k_is); (case c_law_mixed => k_is); (case k_law_mixed => k_is)
    (case a_law_draw => k_is); (case l_law_draw => k_is); (case c_law_draw => k_is); (case k_law_draw => k_is); (case a_law_any => k_is); (case l_law_any => k_is)
    (case c_law_any => k_is); (case k_law_any => k_is); (case a_law_word_of => k_is); (case l_law_word_of => k_is); (case c_law_word_of => k_is); (case k_law_word_of => k_is)
    (case araw_beats => k_is); (case lraw_beats => k_is); (case craw_beats => k_is); (case kraw_beats => k_is); (case ais_sized => k_is); (case lis_sized => k_is)
    (case cis_sized => k_is); (case kis_sized => k_is); (case ais_integer => k_is); (case lis_integer => k_is); (case cis_integer => k_is); (case kis_integer => k_is)
    (case ais_within => k_is); (case lis_within => k_is); (case cis_within => k_is); (case kis_within => k_is); (case ais_code => k_is); (case lis_code => k_is)
    (case cis_code => k_is); (case kis_code => k_is); (case abeats_of => k_is); (case lbeats_of => k_is); (case cbeats_of => k_is); (case kbeats_of => k_is)
    (case ais_beats => k_is); (case lis_beats => k_is); (case cis_beats => k_is); (case kis_beats => k_is); (case acode_by_beats => k_is); (case lcode_by_beats => k_is)
    (case ccode_by_beats => k_is); (case kcode_by_beats => k_is); (case a_law_read => k_is); (case l_law_read => k_is); (case c_law_read => k_is); (case k_law_read => k_is)
    (case alaw => k_is); (case llaw => k_is); (case claw => k_is); (case klaw => k_is); (case lc2 => k_is); (case hv2 => rfl)
    (case nP2 => kernel_rfl); (case hrec => rfl); (case hL => kernel_rfl); (case zint => k_is); (case zlen => k_is); (case zabs => k_is)
    (case zisinstance => k_is); (case ztuple => k_is); (case zbool => k_is); (case zall => k_is); (case zstr => k_is); (case zmax => k_is)
    (case zrange => k_is); (case iMOST_NUMBERS => k_is); (case iMOST_BEATS => k_is); (case iMOST_TEXT => k_is); (case sREST => k_is); (case sBEAT => k_is)
    (case eaEmberError => k_is); (case eqEmberError => k_exc); (case ekEmberError => k_is); (case ebEmberError => k_is); (case etEmberError => k_is); (case eaNoText => k_is)
    (case eqNoText => k_exc); (case ekNoText => k_is); (case ebNoText => k_is); (case etNoText => k_is); (case eaNoCode => k_is); (case eqNoCode => k_exc)
    (case ekNoCode => k_is); (case ebNoCode => k_is); (case etNoCode => k_is); (case u0 => kernel_rfl); (case u1 => kernel_rfl); (case u2 => kernel_rfl)
    (case u3 => kernel_rfl); (case u4 => kernel_rfl); (case u5 => kernel_rfl); (case u6 => kernel_rfl); (case u7 => kernel_rfl); (case u8 => kernel_rfl)
