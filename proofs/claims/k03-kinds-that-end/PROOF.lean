import PyProof.Rows.All
import Wide.All
import OpenK.AllK
import Wide.FinOn
import HandS.ForMost
import HandS.ForExc
import HandS.Deep
import HandS.Wide
import HandS.TupAny
import HandS.TupMul
import HandS.Defaults
import HandS.Style
import HandS.TupLe
import HandS.Text
import HandS.IsInst
import HandS.DictComp
import HandS.Conv
import KE.SortData
import KE.DataCmp
import HandS.TupSets
import HandS.SetFor
import HandS.Strs
import HandS.Words
import PySem.Challenge.RW_linesdown_k03_whole_kinds_that_end
import PyProof.Rows.SeqGen
import HandS.HeadHook4
import HandS.HeadEnd
import HandS.Head0
import HandS.Head1
import HandS.Head2
import HandS.HeadHook1
import HandS.HeadHook2
section
set_option maxHeartbeats 1000000
set_option Elab.async false
set_option linter.all false
set_option maxRecDepth 100000
/-! PPa: the pure layer, its ground: values, what stands for them, what a step keeps, wishes. -/
namespace PP
open PySem PySem.Spec PyProof.Rows L2

structure PyX where
  cls : String
  args : List PyData

/-- a value: data; an owned list, dict; the law's tape; what stands in a slot -/
inductive Val where
  | dat (d : PyData)
  | ml (ds : List PyData)
  | mk (kvs : List (Key × PyData))
  | mt (kvs : List (List Key × PyData))
  | tp (pos : Int) (cells : List Int)
  | scr (ns : List Int)
  | bor (i : Nat)

abbrev Env := List (Option Val)
inductive Rs (α : Type) where
  | ok (a : α) (ρ : Env)
  | ex (x : PyX) (ρ : Env)

def WP {α : Type} (r : Option (Rs α)) (q : α → Env → Prop) (e : PyX → Env → Prop) : Prop :=
  match r with
  | none => False
  | some (.ok a ρ) => q a ρ
  | some (.ex x ρ) => e x ρ
theorem WP.mono {α : Type} {r : Option (Rs α)} {q q' : α → Env → Prop} {e e' : PyX → Env → Prop} (h : WP r q e) (hq : ∀ a ρ, q a ρ → q' a ρ) (he : ∀ x ρ, e x ρ → e' x ρ) : WP r q' e' := by
  unfold WP at *
  split at h
  · exact h
  · exact hq _ _ h
  · exact he _ _ h
def bnd {α β : Type} (r : Option (Rs α)) (f : α → Env → Option (Rs β)) : Option (Rs β) :=
  match r with
  | none => none
  | some (.ok a ρ) => f a ρ
  | some (.ex x ρ) => some (.ex x ρ)
@[simp] theorem bnd_ok {α β : Type} (a : α) (ρ : Env) (f : α → Env → Option (Rs β)) : bnd (some (.ok a ρ)) f = f a ρ := rfl
@[simp] theorem bnd_ex {α β : Type} (x : PyX) (ρ : Env) (f : α → Env → Option (Rs β)) : bnd (some (.ex x ρ)) f = some (.ex x ρ) := rfl
@[simp] theorem bnd_none {α β : Type} (f : α → Env → Option (Rs β)) : bnd none f = none := rfl
theorem WP_bnd {α β : Type} {r : Option (Rs α)} {f : α → Env → Option (Rs β)} {q : β → Env → Prop} {e : PyX → Env → Prop} : WP (bnd r f) q e ↔ WP r (fun a ρ => WP (f a ρ) q e) e := by
  unfold bnd WP
  cases r with
  | none => exact Iff.rfl
  | some r => cases r <;> exact Iff.rfl

/-! ### data: lists and tuples of the frozen heap, tuples of the module -/
mutual
inductive Dt (K : PySem.W.Frag) (G : Hp) : V → PyData → Prop
  | non : Dt K G .non .none
  | bl (b : Bool) : Dt K G (.bl b) (.bool b)
  | int (i : Int) : Dt K G (.int i) (.int i)
  | str (x : Str) : PyData.strOk x = true → Dt K G (.str x) (.str x)
  | lst {a : Addr} {xs : List V} {ds : List PyData} : G a = some (.lst xs) → DtAll K G xs ds → Dt K G (.ref a) (.list ds)
  | tup {a : Addr} {xs : List V} {ds : List PyData} : G a = some (.tup xs) → DtAll K G xs ds → Dt K G (.ref a) (.tuple ds)
inductive DtAll (K : PySem.W.Frag) (G : Hp) : List V → List PyData → Prop
  | nil : DtAll K G [] []
  | cons {v : V} {vs : List V} {d : PyData} {ds : List PyData} : Dt K G v d → DtAll K G vs ds → DtAll K G (v :: vs) (d :: ds)
end
mutual
theorem Dt.dp {K : PySem.W.Frag} {G : Hp} : ∀ {u : V} {d : PyData}, Dt K G u d → Dp K G u d
  | _, _, .non => .non
  | _, _, .bl b => .bl b
  | _, _, .int i => .int i
  | _, _, .str x _ => .str x
  | _, _, .lst hs ha => .lst (.inl (.inl hs)) (DtAll.dp ha)
  | _, _, .tup hs ha => .tup (.inl (.inl hs)) (DtAll.dp ha)
theorem DtAll.dp {K : PySem.W.Frag} {G : Hp} : ∀ {us : List V} {ds : List PyData}, DtAll K G us ds → DpAll K G us ds
  | _, _, .nil => .nil
  | _, _, .cons a b => .cons (Dt.dp a) (DtAll.dp b)
end
theorem SqL.mono {K : PySem.W.Frag} {G G' : Hp} (h : ∀ a o, G a = some o → G' a = some o) {a : Addr} {xs : List V} (s : SqL K G a xs) : SqL K G' a xs :=
  s.elim (fun r => .inl (r.elim (fun r => .inl (h _ _ r)) fun ⟨o, r⟩ => .inr ⟨o, h _ _ r⟩)) .inr
theorem SqT.mono {K : PySem.W.Frag} {G G' : Hp} (h : ∀ a o, G a = some o → G' a = some o) {a : Addr} {xs : List V} (s : SqT K G a xs) : SqT K G' a xs :=
  s.elim (fun r => .inl (r.elim (fun r => .inl (h _ _ r)) fun ⟨o, r⟩ => .inr ⟨o, h _ _ r⟩)) .inr
mutual
theorem Dt.mono {K : PySem.W.Frag} {G G' : Hp} (h : ∀ a o, G a = some o → G' a = some o) : ∀ {u : V} {d : PyData}, Dt K G u d → Dt K G' u d
  | _, _, .non => .non
  | _, _, .bl b => .bl b
  | _, _, .int i => .int i
  | _, _, .str x h => .str x h
  | _, _, .lst hs ha => .lst (h _ _ hs) (DtAll.mono h ha)
  | _, _, .tup hs ha => .tup (h _ _ hs) (DtAll.mono h ha)
theorem DtAll.mono {K : PySem.W.Frag} {G G' : Hp} (h : ∀ a o, G a = some o → G' a = some o) : ∀ {us : List V} {ds : List PyData}, DtAll K G us ds → DtAll K G' us ds
  | _, _, .nil => .nil
  | _, _, .cons a b => .cons (Dt.mono h a) (DtAll.mono h b)
end
theorem DtAll.len {K : PySem.W.Frag} {G : Hp} : ∀ {us : List V} {ds : List PyData}, DtAll K G us ds → us.length = ds.length
  | _, _, .nil => rfl
  | _, _, .cons _ b => by rw [List.length_cons, List.length_cons, DtAll.len b]
theorem DtAll.get {K : PySem.W.Frag} {G : Hp} : ∀ {us : List V} {ds : List PyData}, DtAll K G us ds → ∀ {i : Nat} {d : PyData}, ds[i]? = some d → ∃ u, us[i]? = some u ∧ Dt K G u d
  | _, _, .nil, _, _, h => by simp at h
  | _, _, .cons a b, 0, _, h => by
    have e := Option.some.inj (by simpa using h)
    subst e
    exact ⟨_, rfl, a⟩
  | _, _, .cons a b, i + 1, _, h => by
    obtain ⟨u, e, q⟩ := DtAll.get b (i := i) (by simpa using h)
    exact ⟨u, by simpa using e, q⟩
theorem DtAll.app {K : PySem.W.Frag} {G : Hp} : ∀ {us vs : List V} {ds es : List PyData}, DtAll K G us ds → DtAll K G vs es → DtAll K G (us ++ vs) (ds ++ es)
  | _, _, _, _, .nil, h => h
  | _, _, _, _, .cons a b, h => .cons a (DtAll.app b h)

/-! ### what stands for a value -/
def RelW (K : PySem.W.Frag) (G H : Hp) (σ : L2.St) (u : V) : Val → Prop
  | .dat d => Dt K G u d
  | .ml ds => ∃ a vs, u = .ref a ∧ G a = none ∧ H a = some (.lst vs) ∧ DtAll K G vs ds
  | .mk kvs => ∃ a ks, u = .ref a ∧ G a = none ∧ H a = some (.dK ks) ∧ Paired (fun (p : Key × V) (q : Key × PyData) => p.1 = q.1 ∧ Dt K G p.2 q.2) ks kvs
  | .mt kvs => ∃ a ks, u = .ref a ∧ G a = none ∧ H a = some (.dT ks) ∧ Paired (fun (p : List Key × V) (q : List Key × PyData) => p.1 = q.1 ∧ Dt K G p.2 q.2) ks kvs
  | .tp pos cells => ∃ T C, u = .ref T ∧ T ≠ C ∧ G T = none ∧ G C = none ∧ H T = some (.lst [.int pos, .ref C]) ∧ H C = some (.lst (cells.map .int))
  | .scr ns => ∃ a, u = .ref a ∧ SqL K G a (ns.map .int)
  | .bor i => σ[i]? = some (some u)
/-- the addresses that a value owns -/
def foot (H : Hp) (u : V) : Val → Addr → Prop
  | .dat _, _ => False
  | .bor _, _ => False
  | .scr _, _ => False
  | .tp _ _, b => u = .ref b ∨ ∃ T p, u = .ref T ∧ H T = some (.lst [p, .ref b])
  | .ml _, b => u = .ref b
  | .mk _, b => u = .ref b
  | .mt _, b => u = .ref b
def isMut : Val → Bool
  | .dat _ => false
  | .bor _ => false
  | .scr _ => false
  | _ => true
def Own (H : Hp) (σ : L2.St) (ρ : Env) (b : Addr) : Prop := ∃ (i : Nat) (u : V) (v : Val), σ[i]? = some (some u) ∧ ρ[i]? = some (some v) ∧ foot H u v b
def NoBor : Val → Prop
  | .bor _ => False
  | _ => True

/-- frozen heap G, heap H, slots σ stand for the slots ρ -/
structure S8 (K : PySem.W.Frag) (G H : Hp) (σ : L2.St) (ρ : Env) : Prop where
  gh : ∀ a o, G a = some o → H a = some o
  ht : ∀ a xs, H a = some (.tup xs) → G a = some (.tup xs)
  len : ρ.length = σ.length
  rel : ∀ (i : Nat) (v : Val), ρ[i]? = some (some v) → NoBor v ∧ ∃ u : V, σ[i]? = some (some u) ∧ RelW K G H σ u v
  sep : ∀ (i j : Nat) (u : V) (v : Val) (u' : V) (v' : Val) (b : Addr), i ≠ j → σ[i]? = some (some u) → ρ[i]? = some (some v) → σ[j]? = some (some u') → ρ[j]? = some (some v') → foot H u v b → ¬ foot H u' v' b

/-- what a step keeps: all but what is owned (M) -/
structure Ext (M : Addr → Prop) (G H G' H' : Hp) : Prop where
  gg : ∀ a o, G a = some o → G' a = some o
  gn : ∀ a, H a ≠ none → ¬ M a → G' a = G a
  hh : ∀ a o, H a = some o → ¬ M a → H' a = some o
  th : ∀ a, H a ≠ none → H' a ≠ none

/-- a slot that owns now has owned all the while, the same object -/
def KeepM (H : Hp) (σ : L2.St) (ρ : Env) (H' : Hp) (σ' : L2.St) (ρ' : Env) (j : Nat) : Prop := ∀ v', ρ'[j]? = some (some v') → isMut v' = true → σ'[j]? = σ[j]? ∧ ∃ v, ρ[j]? = some (some v) ∧ isMut v = true ∧ ∀ (u : V) (b : Addr), σ[j]? = some (some u) → foot H' u v' b → foot H u v b
theorem KeepM.refl {H : Hp} {σ : L2.St} {ρ : Env} {j : Nat} : KeepM H σ ρ H σ ρ j := fun v' h hm => ⟨rfl, v', h, hm, fun _ _ _ f => f⟩
theorem KeepM.trans {H H1 H2 : Hp} {σ σ1 σ2 : L2.St} {ρ ρ1 ρ2 : Env} {j : Nat} (a : KeepM H σ ρ H1 σ1 ρ1 j) (b : KeepM H1 σ1 ρ1 H2 σ2 ρ2 j) : KeepM H σ ρ H2 σ2 ρ2 j := fun v' h hm => by
  obtain ⟨e, v, h1, hm1, f1⟩ := b v' h hm
  obtain ⟨e2, w, h2, hm2, f2⟩ := a v h1 hm1
  exact ⟨e.trans e2, w, h2, hm2, fun u b hu f => f2 u b hu (f1 u b (e2.trans hu) f)⟩
structure PostE (K : PySem.W.Frag) (σ : L2.St) (G H : Hp) (ρ : Env) (G' H' : Hp) (ρ' : Env) (u : V) (v : Val) : Prop where
  st : S8 K G' H' σ ρ'
  ext : Ext (Own H σ ρ) G H G' H'
  mm : ∀ b, Own H' σ ρ' b → Own H σ ρ b
  mt : ∀ j : Nat, KeepM H σ ρ H' σ ρ' j
  rv : RelW K G' H' σ u v
  fv : ∀ b, foot H' u v b → ¬ Own H' σ ρ' b ∧ (Own H σ ρ b ∨ H b = none)
/-- .. behind an exception -/
structure PostX (K : PySem.W.Frag) (σ : L2.St) (G H : Hp) (ρ : Env) (G' H' : Hp) (ρ' : Env) : Prop where
  st : S8 K G' H' σ ρ'
  ext : Ext (Own H σ ρ) G H G' H'
  mm : ∀ b, Own H' σ ρ' b → Own H σ ρ b
  mt : ∀ j : Nat, KeepM H σ ρ H' σ ρ' j

section
variable {K : PySem.W.Frag} {G H G' H' G2 H2 : Hp} {σ : L2.St} {ρ ρ' ρ2 : Env} {u : V} {v : Val} {d : PyData}
theorem Paired.imp2 {α β : Type} {F F' : α → β → Prop} (h : ∀ a b, F a b → F' a b) : ∀ {l : List α} {m : List β}, Paired F l m → Paired F' l m
  | _, _, .nil => .nil
  | _, _, .cons a b => .cons (h _ _ a) (Paired.imp2 h b)

/-- a value is kept by a step that does not own it -/
theorem RelW.keep {M : Addr → Prop} (x : Ext M G H G' H') (r : RelW K G H σ u v) (hf : ∀ b, foot H u v b → ¬ M b) : RelW K G' H' σ u v := by
  cases v with
  | dat d => exact Dt.mono x.gg r
  | ml ds =>
    obtain ⟨a, vs, rfl, g, h, q⟩ := r
    have hm := hf a rfl
    exact ⟨a, vs, rfl, (x.gn a (by rw [h]; simp) hm).trans g, x.hh a _ h hm, DtAll.mono x.gg q⟩
  | mk kvs =>
    obtain ⟨a, vs, rfl, g, h, q⟩ := r
    have hm := hf a rfl
    exact ⟨a, vs, rfl, (x.gn a (by rw [h]; simp) hm).trans g, x.hh a _ h hm, Paired.imp2 (fun _ _ z => ⟨z.1, Dt.mono x.gg z.2⟩) q⟩
  | mt kvs =>
    obtain ⟨a, vs, rfl, g, h, q⟩ := r
    have hm := hf a rfl
    exact ⟨a, vs, rfl, (x.gn a (by rw [h]; simp) hm).trans g, x.hh a _ h hm, Paired.imp2 (fun _ _ z => ⟨z.1, Dt.mono x.gg z.2⟩) q⟩
  | tp pos cells =>
    obtain ⟨T, C, rfl, ne, g, g2, h, h2⟩ := r
    have hm := hf T (.inl rfl)
    have hm2 := hf C (.inr ⟨T, _, rfl, h⟩)
    exact ⟨T, C, rfl, ne, (x.gn T (by rw [h]; simp) hm).trans g, (x.gn C (by rw [h2]; simp) hm2).trans g2, x.hh _ _ h hm, x.hh _ _ h2 hm2⟩
  | bor i => exact r
  | scr ns => obtain ⟨a, e, q⟩ := r; exact ⟨a, e, SqL.mono x.gg q⟩
theorem foot.keep {M : Addr → Prop} (x : Ext M G H G' H') (r : RelW K G H σ u v) (hf : ∀ b, foot H u v b → ¬ M b) (b : Addr) : foot H' u v b ↔ foot H u v b := by
  cases v with
  | tp pos cells =>
    obtain ⟨T, C, rfl, ne, g, g2, h, h2⟩ := r
    have hm := hf T (.inl rfl)
    have h' := x.hh _ _ h hm
    constructor
    · rintro (e | ⟨T', p, e, q⟩)
      · exact .inl e
      · cases e; rw [h'] at q; cases q; exact .inr ⟨T, _, rfl, h⟩
    · rintro (e | ⟨T', p, e, q⟩)
      · exact .inl e
      · cases e; rw [h] at q; cases q; exact .inr ⟨T, _, rfl, h'⟩
  | _ => exact Iff.rfl
theorem foot.there (r : RelW K G H σ u v) {b : Addr} (f : foot H u v b) : H b ≠ none := by
  cases v with
  | dat d => exact f.elim
  | bor i => exact f.elim
  | scr ns => exact f.elim
  | ml ds => obtain ⟨a, vs, rfl, g, h, q⟩ := r; cases f; rw [h]; simp
  | mk ds => obtain ⟨a, vs, rfl, g, h, q⟩ := r; cases f; rw [h]; simp
  | mt ds => obtain ⟨a, vs, rfl, g, h, q⟩ := r; cases f; rw [h]; simp
  | tp pos cells =>
    obtain ⟨T, C, rfl, ne, g, g2, h, h2⟩ := r
    rcases f with e | ⟨T', p, e, q⟩
    · cases e; rw [h]; simp
    · cases e; rw [h] at q; cases q; rw [h2]; simp
theorem foot.free (r : RelW K G H σ u v) {b : Addr} (f : foot H u v b) : G b = none := by
  cases v with
  | dat d => exact f.elim
  | bor i => exact f.elim
  | scr ns => exact f.elim
  | ml ds => obtain ⟨a, vs, rfl, g, h, q⟩ := r; cases f; exact g
  | mk ds => obtain ⟨a, vs, rfl, g, h, q⟩ := r; cases f; exact g
  | mt ds => obtain ⟨a, vs, rfl, g, h, q⟩ := r; cases f; exact g
  | tp pos cells =>
    obtain ⟨T, C, rfl, ne, g, g2, h, h2⟩ := r
    rcases f with e | ⟨T', p, e, q⟩
    · cases e; exact g
    · cases e; rw [h] at q; cases q; exact g2
theorem Own.there (s : S8 K G H σ ρ) {b : Addr} (o : Own H σ ρ b) : H b ≠ none ∧ G b = none := by
  obtain ⟨i, u, v, h1, h2, f⟩ := o
  obtain ⟨_, u', h1', r⟩ := s.rel i v h2
  rw [h1] at h1'; cases h1'
  exact ⟨f.there r, f.free r⟩

theorem Ext.refl {M : Addr → Prop} : Ext M G H G H := ⟨fun _ _ h => h, fun _ _ _ => rfl, fun _ _ h _ => h, fun _ h => h⟩
theorem Ext.trans {M M2 : Addr → Prop} (a : Ext M G H G' H') (b : Ext M2 G' H' G2 H2) (hm : ∀ x, M2 x → M x ∨ H x = none) : Ext M G H G2 H2 where
  gg := fun x o h => b.gg x o (a.gg x o h)
  gn := fun x h n => (b.gn x (a.th x h) fun q => (hm x q).elim n h).trans (a.gn x h n)
  hh := fun x o h n => b.hh x o (a.hh x o h n) fun q => (hm x q).elim n (by rw [h]; simp)
  th := fun x h => b.th x (a.th x h)
theorem Ext.weak {M M2 : Addr → Prop} (a : Ext M G H G' H') (hm : ∀ x, M x → M2 x) : Ext M2 G H G' H' :=
  ⟨a.gg, fun x h n => a.gn x h fun q => n (hm x q), fun x o h n => a.hh x o h fun q => n (hm x q), a.th⟩

theorem S8.postX (s : S8 K G H σ ρ) : PostX K σ G H ρ G H ρ := ⟨s, Ext.refl, fun _ h => h, fun _ => .refl⟩
theorem PostE.x (p : PostE K σ G H ρ G' H' ρ' u v) : PostX K σ G H ρ G' H' ρ' := ⟨p.st, p.ext, p.mm, p.mt⟩
/-- one step behind another -/
theorem PostX.transE (p : PostX K σ G H ρ G' H' ρ') (q : PostE K σ G' H' ρ' G2 H2 ρ2 u v) : PostE K σ G H ρ G2 H2 ρ2 u v where
  st := q.st
  ext := p.ext.trans q.ext fun x h => .inl (p.mm x h)
  mm := fun b h => p.mm b (q.mm b h)
  mt := fun j => (p.mt j).trans (q.mt j)
  rv := q.rv
  fv := fun b f => ⟨(q.fv b f).1, (q.fv b f).2.elim (fun z => .inl (p.mm b z)) fun z => by
    by_cases h : H b = none
    · exact .inr h
    · exact absurd z (p.ext.th b h)⟩
theorem PostX.trans (p : PostX K σ G H ρ G' H' ρ') (q : PostX K σ G' H' ρ' G2 H2 ρ2) : PostX K σ G H ρ G2 H2 ρ2 where
  st := q.st
  ext := p.ext.trans q.ext fun x h => .inl (p.mm x h)
  mm := fun b h => p.mm b (q.mm b h)
  mt := fun j => (p.mt j).trans (q.mt j)
/-- a value that waits while a further step is made -/
theorem PostE.keep (p : PostE K σ G H ρ G' H' ρ' u v) (q : PostX K σ G' H' ρ' G2 H2 ρ2) : PostE K σ G H ρ G2 H2 ρ2 u v := by
  have hf : ∀ b, foot H' u v b → ¬ Own H' σ ρ' b := fun b f => (p.fv b f).1
  refine ⟨q.st, (p.x.trans q).ext, (p.x.trans q).mm, (p.x.trans q).mt, p.rv.keep q.ext hf, fun b f => ?_⟩
  have f' := (foot.keep q.ext p.rv hf b).mp f
  exact ⟨fun o => (p.fv b f').1 (q.mm b o), (p.fv b f').2⟩
/-- data, nothing stepped -/
theorem PostX.dat (p : PostX K σ G H ρ G' H' ρ') (h : Dt K G' u d) : PostE K σ G H ρ G' H' ρ' u (.dat d) := ⟨p.st, p.ext, p.mm, p.mt, h, fun _ f => f.elim⟩
/-- the heap grows by a frozen object -/
theorem S8.frozen {p : Addr} {o : HO} (s : S8 K G H σ ρ) (np : H p = none) : PostX K σ G H ρ (upd G p o) (upd H p o) ρ := by
  have gp : G p = none := by
    cases e : G p with
    | none => rfl
    | some z => rw [s.gh p z e] at np; cases np
  have x : Ext (Own H σ ρ) G H (upd G p o) (upd H p o) :=
    ⟨fun a z h => by rw [upd_ne (ne_of_none h gp)]; exact h, fun a h _ => upd_ne (fun e => h (e ▸ np)), fun a z h _ => by rw [upd_ne (ne_of_none h np)]; exact h,
      fun a h => by
        have ne : a ≠ p := fun e => h (by rw [e]; exact np)
        rw [upd_ne ne]; exact h⟩
  have own : ∀ (i : Nat) (u : V) (v : Val), σ[i]? = some (some u) → ρ[i]? = some (some v) → ∀ b, foot (upd H p o) u v b ↔ foot H u v b := fun i u v h1 h2 b => by
    cases v with
    | tp pos cells =>
      obtain ⟨_, u', h1', r⟩ := s.rel i _ h2
      rw [h1] at h1'; cases h1'
      obtain ⟨T, C, rfl, ne, g, g2, h, h2'⟩ := r
      have hT : T ≠ p := ne_of_none h np
      constructor
      · rintro (e | ⟨T', q, e, z⟩)
        · exact .inl e
        · cases e; rw [upd_ne hT] at z; exact .inr ⟨T, q, rfl, z⟩
      · rintro (e | ⟨T', q, e, z⟩)
        · exact .inl e
        · cases e; exact .inr ⟨T, q, rfl, by rw [upd_ne hT]; exact z⟩
    | _ => exact Iff.rfl
  refine ⟨⟨fun a z h => ?_, fun a xs h => ?_, s.len, fun i v h => ?_, fun i j u v u' v' b ne a1 a2 a3 a4 f f' => ?_⟩, x, fun b ⟨i, u, v, h1, h2, f⟩ => ⟨i, u, v, h1, h2, (own i u v h1 h2 b).mp f⟩, fun j v' h hm => ⟨rfl, v', h, hm, fun u b h1 f => (own j u v' h1 h b).mp f⟩⟩
  · by_cases e : a = p
    · subst e; rw [upd_same] at h ⊢; exact h
    · rw [upd_ne e] at h ⊢; exact s.gh a z h
  · by_cases e : a = p
    · subst e; rw [upd_same] at h ⊢; exact h
    · rw [upd_ne e] at h ⊢; exact s.ht a xs h
  · obtain ⟨nb, u, h1, r⟩ := s.rel i v h
    refine ⟨nb, u, h1, ?_⟩
    cases v with
    | dat d => exact Dt.mono x.gg r
    | bor j => exact r
    | scr ns => obtain ⟨a, e, q⟩ := r; exact ⟨a, e, SqL.mono x.gg q⟩
    | ml ds =>
      obtain ⟨a, vs, rfl, g, hh, q⟩ := r
      have e : a ≠ p := ne_of_none hh np
      exact ⟨a, vs, rfl, by rw [upd_ne e]; exact g, by rw [upd_ne e]; exact hh, DtAll.mono x.gg q⟩
    | mk ds =>
      obtain ⟨a, vs, rfl, g, hh, q⟩ := r
      have e : a ≠ p := ne_of_none hh np
      exact ⟨a, vs, rfl, by rw [upd_ne e]; exact g, by rw [upd_ne e]; exact hh, Paired.imp2 (fun _ _ z => ⟨z.1, Dt.mono x.gg z.2⟩) q⟩
    | mt ds =>
      obtain ⟨a, vs, rfl, g, hh, q⟩ := r
      have e : a ≠ p := ne_of_none hh np
      exact ⟨a, vs, rfl, by rw [upd_ne e]; exact g, by rw [upd_ne e]; exact hh, Paired.imp2 (fun _ _ z => ⟨z.1, Dt.mono x.gg z.2⟩) q⟩
    | tp pos cells =>
      obtain ⟨T, C, rfl, ne, g, g2, hh, h2⟩ := r
      have e : T ≠ p := ne_of_none hh np
      have e2 : C ≠ p := ne_of_none h2 np
      exact ⟨T, C, rfl, ne, by rw [upd_ne e]; exact g, by rw [upd_ne e2]; exact g2, by rw [upd_ne e]; exact hh, by rw [upd_ne e2]; exact h2⟩
  · exact s.sep i j u v u' v' b ne a1 a2 a3 a4 ((own i u v a1 a2 b).mp f) ((own j u' v' a3 a4 b).mp f')
end
end PP

end
section
set_option maxHeartbeats 1000000
set_option Elab.async false
set_option linter.all false
set_option maxRecDepth 100000
/-! PPb: the pure layer: judgements, names, constants, operators by values, calls of defs. -/
namespace PP
open PySem PySem.Spec PyProof.Rows L2

inductive FRes where
  | ok (v : Val) (as : List Val)
  | ex (x : PyX)
abbrev Phi := String → List Val → Option FRes
abbrev XR := PyX → Value → Option Addr → Hp → Prop
structure Gam where
  Φ : Phi
  k : Nat
  bl : List String
  gl : List (String × PyData)
  kt : List (String × List PyData)
  fns : List (String × Nat)
  xr : XR

/-- a def's promise by its function -/
def spOf (xr : XR) (n : Nat) (K : PySem.W.Frag) (φ : List Val → Option FRes) : Sp := fun vs H Q E => vs.length = n ∧ ∃ (G : Hp) (as : List Val),
  S8 K G H (vs.map some) (as.map some) ∧
  match φ as with
  | none => False
  | some (.ok v bs) => ∀ u G' H', NoBor v → PostE K (vs.map some) G H (as.map some) G' H' (bs.map some) u v → Q u H'
  | some (.ex x) => ∀ cls d G' H', PostX K (vs.map some) G H (as.map some) G' H' (as.map some) → xr x cls d H' → E cls d H'
def FnAt (Γ : Gam) (X : Cx) (f : String) (n : Nat) : Prop :=
  ∃ (a : Addr) (fd : FuncData) (ps : List Str), FnOk X.prog X.w X.K X.mg X.base (L2.CX X.prog X.w) Γ.k a fd ps (spOf Γ.xr n X.K (Γ.Φ f)) ∧ X.mg (f : Str) = some (.ref a) ∧ PySem.W.keepIn X.K (.ref a) = true ∧ Binds X.K fd ps []

/-- a tuple of constants of the module -/
def KTup (K : PySem.W.Frag) (mg : Str → Option Value) (x : String) (ds : List PyData) : Prop := ∃ a xs, mg (x : Str) = some (.ref a) ∧ SqT K (fun _ => none) a xs ∧ ∀ G, DtAll K G xs ds
structure Kn (Γ : Gam) (X : Cx) (sc : Scope) (N : List Str) (W : WX) : Prop where
  calm : X.calm = true
  nn : X.N = N
  nd : N.Nodup
  sc : X.env.scope = sc
  room : Room Γ.k X.A
  bl : ∀ x ∈ Γ.bl, X.mg ((x : String) : Str) = none
  gl : ∀ p ∈ Γ.gl, ∃ v u, X.mg ((p.1 : String) : Str) = some u ∧ RelV v u ∧ ∀ G, Dt X.K G v p.2
  kt : ∀ p ∈ Γ.kt, KTup X.K X.mg p.1 p.2
  fn : ∀ f ∈ Γ.fns, FnAt Γ X f.1 f.2
  tk : Takes X W

def tE (X : Cx) (e : Expr) : TE := fun σ H Q => ∀ (pins : List (Addr × Obj)) (s : Shared), Inv X pins σ H s → wpAny (model X.prog X.w) X.A (eval e X.env) (EP X pins σ Q) X.xe s
theorem pe_star {X : Cx} {e : Expr} : PE X e (tE X e) := ⟨fun pins s _ _ _ I h => h pins s I⟩
theorem tE_of {X : Cx} {e : Expr} {t : TE} (p : PE X e t) {σ : L2.St} {H : Hp} {Q : VK} (h : t σ H Q) : tE X e σ H Q := fun pins s I => p.run pins s σ H Q I h
theorem tE.mono {X : Cx} {e : Expr} {σ : L2.St} {H : Hp} {Q Q' : VK} (h : tE X e σ H Q) (q : ∀ v H', Q v H' → Q' v H') : tE X e σ H Q' :=
  fun pins s I => thn (h pins s I) fun _ _ ⟨v, H', I', r, z⟩ => ⟨v, H', I', r, q v H' z⟩

abbrev Ev := Env → Option (Rs Val)
abbrev EvL := Env → Option (Rs (List Val))
abbrev EvB := Env → Option (Rs Bool)

/-- what is wished behind an exception -/
def ExQ (Γ : Gam) (K : PySem.W.Frag) (W : WX) (σ : L2.St) (G H : Hp) (ρ : Env) : PyX → Env → Prop := fun x ρ' => ∀ cls d G' H', PostX K σ G H ρ G' H' ρ' → Γ.xr x cls d H' → W cls d σ H'
theorem ExQ.step {Γ : Gam} {K : PySem.W.Frag} {W : WX} {σ : L2.St} {G H G1 H1 : Hp} {ρ ρ1 : Env} (p : PostX K σ G H ρ G1 H1 ρ1) {x : PyX} {ρ' : Env} (h : ExQ Γ K W σ G H ρ x ρ') : ExQ Γ K W σ G1 H1 ρ1 x ρ' :=
  fun cls d G' H' q r => h cls d G' H' (p.trans q) r

def SndE (Γ : Gam) (N : List Str) (sc : Scope) (e : Expr) (f : Ev) : Prop :=
  ∀ (X : Cx) (W : WX), Kn Γ X sc N W → ∀ (G H : Hp) (σ : L2.St) (ρ : Env) (Q : VK), S8 X.K G H σ ρ →
    WP (f ρ) (fun v ρ' => ∀ u G' H', PostE X.K σ G H ρ G' H' ρ' u v → Q u H') (ExQ Γ X.K W σ G H ρ) → tE X e σ H Q
/-- one step of an expression, what follows still to be done -/
theorem SndE.go {Γ : Gam} {N : List Str} {sc : Scope} {e : Expr} {f : Ev} (h : SndE Γ N sc e f) {X : Cx} {W : WX} (kn : Kn Γ X sc N W) {G0 H0 G H : Hp} {σ : L2.St} {ρ0 ρ : Env} {α : Type} {g : Val → Env → Option (Rs α)} {q : α → Env → Prop}
    (p : PostX X.K σ G0 H0 ρ0 G H ρ) (w : WP (bnd (f ρ) g) q (ExQ Γ X.K W σ G0 H0 ρ0)) :
    tE X e σ H (fun u H1 => ∃ G1 ρ1 v, PostE X.K σ G H ρ G1 H1 ρ1 u v ∧ PostX X.K σ G0 H0 ρ0 G1 H1 ρ1 ∧ WP (g v ρ1) q (ExQ Γ X.K W σ G0 H0 ρ0)) := by
  refine h X W kn G H σ ρ _ p.st ?_
  rw [WP_bnd] at w
  exact w.mono (fun v ρ1 hw u G1 H1 pe => ⟨G1, ρ1, v, pe, p.trans pe.x, hw⟩) fun x ρ' hx => hx.step p

/-! ### names and constants -/
def visB (sc : Scope) (x : Str) : Bool := match sc.names.lookup x with
  | some .local => true
  | some .cell => true
  | some .free => true
  | _ => false
theorem vis_of {sc : Scope} {x : Str} (h : visB sc x = true) : Vis sc x := by
  unfold visB at h
  split at h
  · exact .inl (by assumption)
  · exact .inr (.inl (by assumption))
  · exact .inr (.inr (by assumption))
  · cases h
def lend (i : Nat) : Val → Val := fun v => if isMut v then .bor i else v
def cVar (i : Nat) : Ev := fun ρ => match ρ[i]? with
  | some (some v) => some (.ok (lend i v) ρ)
  | _ => none
theorem PostX.slot {K : PySem.W.Frag} {σ : L2.St} {G H G1 H1 : Hp} {ρ ρ1 : Env} (p : PostX K σ G H ρ G1 H1 ρ1) {i : Nat} {v : Val} (h : ρ1[i]? = some (some v)) : ∃ u, σ[i]? = some (some u) ∧ PostE K σ G H ρ G1 H1 ρ1 u (lend i v) := by
  obtain ⟨nb, u, hu, r⟩ := p.st.rel i v h
  refine ⟨u, hu, p.st, p.ext, p.mm, p.mt, ?_, ?_⟩
  · unfold lend
    split
    · exact hu
    · exact r
  · intro b f
    unfold lend at f
    split at f
    · exact f.elim
    · rename_i hm
      cases v <;> first | exact f.elim | exact (hm rfl).elim
section
variable {Γ : Gam} {N : List Str} {sc : Scope}
theorem sE_var {i : Nat} {x : Str} {pos : Pos} (hN : N[i]? = some x) (hv : visB sc x = true) (hd : (x == ("__debug__" : Str)) = false := by decide) (hcd : (x == ("__classdict__" : Str)) = false := by decide) : SndE Γ N sc (.Name x pos) (cVar i) := by
  intro X W kn G H σ ρ Q s w
  unfold cVar at w
  split at w
  · rename_i v hi
    obtain ⟨u, hu, pe⟩ := s.postX.slot hi
    exact tE_of (pe_var (i := i) (kn.nn ▸ hN) (kn.sc ▸ vis_of hv) hd hcd) ⟨u, hu, w u G H pe⟩
  · exact w.elim
def cC (d : PyData) : Ev := fun ρ => some (.ok (.dat d) ρ)
theorem sE_int {i : Int} {j : Nat} {pos : Pos} : SndE Γ N sc (.Constant (.int i) j pos) (cC (.int i)) := fun X W kn G H σ ρ Q s w => tE_of pe_int (w _ G H (s.postX.dat (.int i)))
theorem sE_bl {b : Bool} {j : Nat} {pos : Pos} : SndE Γ N sc (.Constant (.bool b) j pos) (cC (.bool b)) := fun X W kn G H σ ρ Q s w => tE_of pe_bl (w _ G H (s.postX.dat (.bl b)))
theorem sE_non {j : Nat} {pos : Pos} : SndE Γ N sc (.Constant .none j pos) (cC .none) := fun X W kn G H σ ρ Q s w => tE_of pe_non (w _ G H (s.postX.dat .non))
theorem sE_str {x : Str} {j : Nat} {pos : Pos} (hx : PyData.strOk x = true) : SndE Γ N sc (.Constant (.str x) j pos) (cC (.str x)) := fun X W kn G H σ ρ Q s w => tE_of pe_str (w _ G H (s.postX.dat (.str x hx)))
def glB (sc : Scope) (x : Str) : Bool := match sc.names.lookup x with
  | some .globalImplicit => true
  | _ => false
theorem gl_of {X : Cx} {x : Str} (e : X.env.scope = sc) (h : glB sc x = true) : Gl X x := by
  unfold glB at h
  unfold Gl Env.kindOf
  rw [e]
  split at h
  · assumption
  · cases h
theorem sE_glob {x : String} {d : PyData} {pos : Pos} (hg : glB sc x = true) (hm : (x, d) ∈ Γ.gl) (hd : ((x : Str) == ("__debug__" : Str)) = false := by decide) : SndE Γ N sc (.Name x pos) (cC d) := by
  intro X W kn G H σ ρ Q s w
  obtain ⟨v, u, h1, r, h2⟩ := kn.gl _ hm
  exact tE_of (pe_glob (gl_of kn.sc hg) h1 r hd) (w _ G H (s.postX.dat (h2 G)))

/-! ### the heap grows by frozen objects -/
structure New (G H G' H' : Hp) : Prop where
  post : ∀ {K : PySem.W.Frag} {σ : L2.St} {ρ : Env}, S8 K G H σ ρ → PostX K σ G H ρ G' H' ρ
theorem New.refl {G H : Hp} : New G H G H := ⟨fun s => s.postX⟩
theorem New.push {G H : Hp} {p : Addr} {o : HO} (np : H p = none) : New G H (upd G p o) (upd H p o) := ⟨fun s => s.frozen np⟩
theorem New.trans {G H G1 H1 G2 H2 : Hp} (a : New G H G1 H1) (b : New G1 H1 G2 H2) : New G H G2 H2 := ⟨fun s => (a.post s).trans (b.post (a.post s).st)⟩

/-- what a value is: a slot's, where it is lent -/
def res (ρ : Env) : Val → Option Val
  | .bor i => match ρ[i]? with
    | some (some v) => if isMut v = true then some v else none
    | _ => none
  | v => some v
theorem res_bor {ρ : Env} {i : Nat} {w : Val} (e : res ρ (.bor i) = some w) : ρ[i]? = some (some w) ∧ isMut w = true := by
  unfold res at e
  simp only at e
  split at e
  · rename_i v hv
    split at e
    · rename_i hm
      cases e
      exact ⟨hv, hm⟩
    · cases e
  · cases e
theorem res.rel {K : PySem.W.Frag} {G H : Hp} {σ : L2.St} {ρ : Env} {u : V} {v w : Val} (s : S8 K G H σ ρ) (r : RelW K G H σ u v) (e : res ρ v = some w) : RelW K G H σ u w ∧ NoBor w := by
  cases v with
  | bor i =>
    have hv := (res_bor e).1
    obtain ⟨nb, u', hu, q⟩ := s.rel i _ hv
    have r' : σ[i]? = some (some u) := r
    rw [hu] at r'; cases r'
    exact ⟨q, nb⟩
  | _ => cases e; exact ⟨r, trivial⟩

abbrev Op2 := Val → Val → Option PyData
/-- a two-place operation on values, frozen objects made -/
def OpS (f : Value → Value → Sem Value) (op : Op2) : Prop :=
  ∀ (X : Cx), X.calm = true → X.A.units + 200 < cLine → ∀ (pins : List (Addr × Obj)) (s : Shared) (σ σ' : L2.St) (G H : Hp) (x y : V) (v u : Value) (a b : Val) (d : PyData) (Q : VK), Inv X pins σ H s → RelV x v → RelV y u → (∀ p o, G p = some o → H p = some o) →
    RelW X.K G H σ' x a → RelW X.K G H σ' y b → NoBor a → NoBor b → op a b = some d → (∀ z G' H', New G H G' H' → Dt X.K G' z d → Q z H') → wpAny (model X.prog X.w) X.A (f v u) (EP X pins σ Q) X.xe s
def fin2 (op : Op2) (x y : Val) (ρ : Env) : Option (Rs Val) := match res ρ x, res ρ y with
  | some a, some b => match op a b with
    | some d => some (.ok (.dat d) ρ)
    | none => none
  | _, _ => none
def cBin (op : Op2) (fa fb : Ev) : Ev := fun ρ => bnd (fa ρ) fun x ρ1 => bnd (fb ρ1) fun y ρ2 => fin2 op x y ρ2
theorem Kn.units {X : Cx} {W : WX} (kn : Kn Γ X sc N W) : X.A.units + 200 < cLine := Nat.lt_of_le_of_lt (by omega) kn.room.un
/-- two operands, then an operation -/
theorem two_go {a b : Expr} {fa fb : Ev} {op : Op2} {f : Value → Value → Sem Value} (ho : OpS f op) (ha : SndE Γ N sc a fa) (hb : SndE Γ N sc b fb) {X : Cx} {W : WX} (kn : Kn Γ X sc N W) {G H : Hp} {σ : L2.St} {ρ : Env} {Q : VK} (s : S8 X.K G H σ ρ)
    (w : WP (cBin op fa fb ρ) (fun v ρ' => ∀ u G' H', PostE X.K σ G H ρ G' H' ρ' u v → Q u H') (ExQ Γ X.K W σ G H ρ)) :
    tE X a σ H fun x H1 => tE X b σ H1 fun y H2 => ∀ (pins : List (Addr × Obj)) (s : Shared) (v u : Value), Inv X pins σ H2 s → RelV x v → RelV y u → wpAny (model X.prog X.w) X.A (f v u) (EP X pins σ Q) X.xe s := by
  refine (ha.go kn s.postX w).mono fun x H1 ⟨G1, ρ1, v1, pe1, p1, w1⟩ => ?_
  refine (hb.go kn p1 w1).mono fun y H2 ⟨G2, ρ2, v2, pe2, p2, w2⟩ => ?_
  intro pins st v u I rx ry
  unfold fin2 at w2
  split at w2
  · rename_i a' b' ea eb
    have r1 := res.rel p2.st (pe1.keep pe2.x).rv ea
    have r2 := res.rel p2.st pe2.rv eb
    cases hd : op a' b' with
    | none => rw [hd] at w2; exact w2.elim
    | some d =>
      rw [hd] at w2
      exact ho X kn.calm kn.units pins st σ σ G2 H2 x y v u a' b' d Q I rx ry p2.st.gh r1.1 r2.1 r1.2 r2.2 hd fun z G' H' nw q => w2 z G' H' ((p2.trans (nw.post p2.st)).dat q)
  · exact w2.elim
def rStar (X : Cx) (f : Value → Value → Sem Value) (σ : L2.St) : R2 := fun x y H Q => ∀ (pins : List (Addr × Obj)) (s : Shared) (v u : Value), Inv X pins σ H s → RelV x v → RelV y u → wpAny (model X.prog X.w) X.A (f v u) (EP X pins σ Q) X.xe s
theorem sE_bin {o : Operator} {a b : Expr} {pos : Pos} {fa fb : Ev} {op : Op2} (ho : OpS (binaryOp o) op) (ha : SndE Γ N sc a fa) (hb : SndE Γ N sc b fb) : SndE Γ N sc (.BinOp a o b pos) (cBin op fa fb) := by
  intro X W kn G H σ ρ Q s w pins st I
  exact wpAny_BinOp (binT pe_star pe_star I (two_go ho ha hb kn s w) fun v u s2 x y H2 I2 rx ry q => q pins s2 v u I2 rx ry)
theorem sE_cmp {o : CmpOp} {a b : Expr} {pos : Pos} {fa fb : Ev} {op : Op2} (ho : OpS (compareOp o) op) (ha : SndE Γ N sc a fa) (hb : SndE Γ N sc b fb) (hm : behindInMarks o b = false) : SndE Γ N sc (.Compare a [o] [b] pos) (cBin op fa fb) := by
  intro X W kn G H σ ρ Q s w pins st I
  exact wpAny_Compare1 (binT pe_star pe_star I (two_go ho ha hb kn s w) fun v u s2 x y H2 I2 rx ry q => q pins s2 v u I2 rx ry) hm

/-! ### argument lists -/
/-- values that wait: each stands, none is owned by a slot, the owned ones are apart -/
def Held (K : PySem.W.Frag) (σ : L2.St) (G H : Hp) (ρ : Env) : List V → List Val → Prop
  | [], [] => True
  | u :: us, v :: vs => RelW K G H σ u v ∧ (∀ b, ¬ foot H u v b) ∧ Held K σ G H ρ us vs
  | _, _ => False
theorem Held.keep {K : PySem.W.Frag} {σ : L2.St} {G H G1 H1 : Hp} {ρ ρ1 : Env} (p : PostX K σ G H ρ G1 H1 ρ1) : ∀ {us : List V} {vs : List Val}, Held K σ G H ρ us vs → Held K σ G1 H1 ρ1 us vs
  | [], [], _ => trivial
  | u :: us, v :: vs, h => ⟨h.1.keep p.ext fun b f => (h.2.1 b f).elim, fun b f => h.2.1 b ((foot.keep p.ext h.1 (fun b f => (h.2.1 b f).elim) b).mp f), Held.keep p h.2.2⟩
  | [], _ :: _, h => h.elim
  | _ :: _, [], h => h.elim
def tA (X : Cx) (es : List Expr) : TA := fun σ H Q => ∀ (pos : Pos) (pins : List (Addr × Obj)) (s : Shared), Inv X pins σ H s → wpAny (model X.prog X.w) X.A (spliced (backTo pos (starEach es X.env))) (AP X pins σ Q) X.xe s
theorem pa_star' {X : Cx} {es : List Expr} : PA X es (tA X es) := ⟨fun pos pins s _ _ _ I h => h pos pins s I⟩
theorem tA_of {X : Cx} {es : List Expr} {t : TA} (p : PA X es t) {σ : L2.St} {H : Hp} {Q : List V → Hp → Prop} (h : t σ H Q) : tA X es σ H Q := fun pos pins s I => p.run pos pins s σ H Q I h
theorem tA.mono {X : Cx} {es : List Expr} {σ : L2.St} {H : Hp} {Q Q' : List V → Hp → Prop} (h : tA X es σ H Q) (q : ∀ v H', Q v H' → Q' v H') : tA X es σ H Q' :=
  fun pos pins s I => thn (h pos pins s I) fun _ _ ⟨v, H', I', r, z⟩ => ⟨v, H', I', r, q v H' z⟩
def SndA (Γ : Gam) (N : List Str) (sc : Scope) (es : List Expr) (f : EvL) : Prop :=
  ∀ (X : Cx) (W : WX), Kn Γ X sc N W → ∀ (G H : Hp) (σ : L2.St) (ρ : Env) (Q : List V → Hp → Prop), S8 X.K G H σ ρ →
    WP (f ρ) (fun vs ρ' => ∀ us G' H', PostX X.K σ G H ρ G' H' ρ' → Held X.K σ G' H' ρ' us vs → us.length = es.length → Q us H') (ExQ Γ X.K W σ G H ρ) → tA X es σ H Q
/-- an argument may be data, the script, or a slot's -/
def argOk : Val → Bool
  | .dat _ => true
  | .scr _ => true
  | .bor _ => true
  | _ => false
theorem argOk.foot {H : Hp} {u : V} {v : Val} (h : argOk v = true) (b : Addr) : ¬ foot H u v b := by
  cases v <;> first | exact fun f => f.elim | cases h
def aNil : EvL := fun ρ => some (.ok [] ρ)
def aCons (f : Ev) (g : EvL) : EvL := fun ρ => bnd (f ρ) fun v ρ1 => if argOk v = true then bnd (g ρ1) fun vs ρ2 => some (.ok (v :: vs) ρ2) else none
theorem sA_nil : SndA Γ N sc [] aNil := fun X W kn G H σ ρ Q s w => tA_of pa_nil (w [] G H s.postX trivial rfl)
theorem sA_cons {e : Expr} {es : List Expr} {f : Ev} {g : EvL} (ha : SndE Γ N sc e f) (hg : SndA Γ N sc es g) (hs : ∀ env, starEach (e :: es) env = (false, eval e env) :: starEach es env := by intro _; rfl) : SndA Γ N sc (e :: es) (aCons f g) := by
  intro X W kn G H σ ρ Q s w
  refine tA_of (pa_cons pe_star pa_star' (hs X.env)) ?_
  refine (ha.go kn s.postX w).mono fun u H1 ⟨G1, ρ1, v, pe, p1, w1⟩ => ?_
  by_cases ho : argOk v = true
  · rw [if_pos ho, WP_bnd] at w1
    refine hg X W kn G1 H1 σ ρ1 _ pe.st ?_
    refine w1.mono (fun vs ρ2 w2 us G2 H2 p2 hd hlen => ?_) fun x ρ' hx => hx.step p1
    have w2' : ∀ us' G' H', PostX X.K σ G H ρ G' H' ρ2 → Held X.K σ G' H' ρ2 us' (v :: vs) → us'.length = (e :: es).length → Q us' H' := w2
    exact w2' _ G2 H2 (p1.trans p2) ⟨(pe.keep p2).rv, argOk.foot ho, hd⟩ (by rw [List.length_cons, List.length_cons, hlen])
  · rw [if_neg ho] at w1
    exact w1.elim
end
end PP

end
section
set_option maxHeartbeats 1000000
set_option Elab.async false
set_option linter.all false
set_option maxRecDepth 100000
/-! PPc: the pure layer: a call of a def by its function. -/
namespace PP
open PySem PySem.Spec PyProof.Rows L2

def resL (ρ : Env) : List Val → Option (List Val)
  | [] => some []
  | v :: vs => match res ρ v, resL ρ vs with
    | some a, some as => some (a :: as)
    | _, _ => none
def bors : List Val → List Nat
  | [] => []
  | .bor i :: vs => i :: bors vs
  | _ :: vs => bors vs
def noDup : List Nat → Bool
  | [] => true
  | i :: is => !is.contains i && noDup is
def wb (ρ : Env) : List Val → List Val → Env
  | .bor i :: vs, b :: bs => wb (ρ.set i (some b)) vs bs
  | _ :: vs, _ :: bs => wb ρ vs bs
  | _, _ => ρ
def noBor : Val → Bool
  | .bor _ => false
  | _ => true
theorem noBor_iff {v : Val} : noBor v = true ↔ NoBor v := by cases v <;> simp [noBor, NoBor]
def callV (Φ : Phi) (f : String) (vs : List Val) (ρ : Env) : Option (Rs Val) := match resL ρ vs with
  | none => none
  | some as => if noDup (bors vs) = true then match Φ f as with
    | some (.ok v bs) => if noBor v = true ∧ bs.length = as.length then some (.ok v (wb ρ vs bs)) else none
    | some (.ex x) => some (.ex x ρ)
    | none => none
    else none
def cCall (Φ : Phi) (f : String) (g : EvL) : Ev := fun ρ => bnd (g ρ) fun vs ρ1 => callV Φ f vs ρ1

theorem noDup_iff : ∀ {l : List Nat}, noDup l = true → l.Nodup
  | [], _ => List.nodup_nil
  | i :: is, h => by
    unfold noDup at h
    rw [Bool.and_eq_true] at h
    refine List.nodup_cons.mpr ⟨fun m => ?_, noDup_iff h.2⟩
    have := h.1
    rw [List.contains_iff_mem.mpr m] at this
    cases this
theorem mem_bors : ∀ {vs : List Val} {i : Nat}, i ∈ bors vs ↔ ∃ j : Nat, vs[j]? = some (.bor i)
  | [], i => by simp [bors]
  | v :: vs, i => by
    have ih := @mem_bors vs i
    constructor
    · intro h
      cases v with
      | bor k =>
        rcases List.mem_cons.mp h with e | h
        · subst e; exact ⟨0, rfl⟩
        · obtain ⟨j, e⟩ := ih.mp h; exact ⟨j + 1, by simpa using e⟩
      | _ => obtain ⟨j, e⟩ := ih.mp h; exact ⟨j + 1, by simpa using e⟩
    · rintro ⟨j, e⟩
      cases j with
      | zero =>
        have e' : v = .bor i := by simpa using e
        subst e'
        exact List.mem_cons_self
      | succ j =>
        have h := ih.mpr ⟨j, by simpa using e⟩
        cases v <;> first | exact List.mem_cons_of_mem _ h | exact h
theorem bors_inj : ∀ {vs : List Val} {i j : Nat} {k : Nat}, (bors vs).Nodup → vs[i]? = some (.bor k) → vs[j]? = some (.bor k) → i = j
  | [], _, _, _, _, h, _ => by simp at h
  | v :: vs, i, j, k, nd, h1, h2 => by
    have tail : (bors vs).Nodup := by cases v <;> first | exact (List.nodup_cons.mp nd).2 | exact nd
    cases i with
    | zero =>
      have e1 : v = .bor k := by simpa using h1
      subst e1
      cases j with
      | zero => rfl
      | succ j => exact absurd (mem_bors.mpr ⟨j, by simpa using h2⟩) (List.nodup_cons.mp nd).1
    | succ i =>
      cases j with
      | zero =>
        have e1 : v = .bor k := by simpa using h2
        subst e1
        exact absurd (mem_bors.mpr ⟨i, by simpa using h1⟩) (List.nodup_cons.mp nd).1
      | succ j => rw [bors_inj tail (i := i) (j := j) (by simpa using h1) (by simpa using h2)]
theorem wb_len : ∀ (vs bs : List Val) (ρ : Env), (wb ρ vs bs).length = ρ.length
  | [], bs, _ => by cases bs <;> rfl
  | v :: vs, [], _ => by cases v <;> rfl
  | v :: vs, b :: bs, ρ => by
    cases v with
    | bor k => unfold wb; rw [wb_len vs bs, List.length_set]
    | _ => exact wb_len vs bs ρ
theorem wb_out : ∀ {vs bs : List Val} {ρ : Env} {i : Nat}, i ∉ bors vs → (wb ρ vs bs)[i]? = ρ[i]?
  | [], bs, _, _, _ => by cases bs <;> rfl
  | v :: vs, [], _, _, _ => by cases v <;> rfl
  | v :: vs, b :: bs, ρ, i, h => by
    cases v with
    | bor k =>
      have h1 : i ≠ k := fun e => h (e ▸ List.mem_cons_self)
      unfold wb
      rw [wb_out (fun m => h (List.mem_cons_of_mem _ m)), List.getElem?_set_ne (Ne.symm h1)]
    | _ => exact wb_out (vs := vs) h
theorem wb_in : ∀ {vs bs : List Val} {ρ : Env} {i j : Nat} {b : Val}, (bors vs).Nodup → vs[j]? = some (.bor i) → bs[j]? = some b → i < ρ.length → (wb ρ vs bs)[i]? = some (some b)
  | [], _, _, _, _, _, _, h, _, _ => by simp at h
  | v :: vs, [], _, _, _, _, _, _, h, _ => by simp at h
  | v :: vs, c :: bs, ρ, i, j, b, nd, h1, h2, hi => by
    cases j with
    | zero =>
      have e1 : v = .bor i := by simpa using h1
      have e2 : c = b := by simpa using h2
      subst e1 e2
      unfold wb
      rw [wb_out (List.nodup_cons.mp nd).1, List.getElem?_set_self hi]
    | succ j =>
      have h1' : vs[j]? = some (.bor i) := by simpa using h1
      have h2' : bs[j]? = some b := by simpa using h2
      cases v with
      | bor k =>
        unfold wb
        exact wb_in (List.nodup_cons.mp nd).2 h1' h2' (by rw [List.length_set]; exact hi)
      | _ => exact wb_in (vs := vs) nd h1' h2' hi
section
variable {K : PySem.W.Frag} {G H G' H' : Hp} {σ σ' : L2.St} {ρ : Env} {u : V} {v : Val} {us : List V} {vs as bs : List Val}
theorem RelW.any (h : NoBor v) (r : RelW K G H σ u v) : RelW K G H σ' u v := by
  cases v with
  | bor i => exact h.elim
  | _ => exact r
theorem Held.len : ∀ {us : List V} {vs : List Val}, Held K σ G H ρ us vs → us.length = vs.length
  | [], [], _ => rfl
  | _ :: _, _ :: _, h => by rw [List.length_cons, List.length_cons, Held.len h.2.2]
  | [], _ :: _, h => h.elim
  | _ :: _, [], h => h.elim
theorem Held.get : ∀ {us : List V} {vs : List Val}, Held K σ G H ρ us vs → ∀ {j : Nat} {v : Val}, vs[j]? = some v → ∃ u, us[j]? = some u ∧ RelW K G H σ u v ∧ ∀ b, ¬ foot H u v b
  | [], [], _, _, _, e => by simp at e
  | u :: _, w :: _, h, 0, v, e => by
    have e' : w = v := by simpa using e
    subst e'
    exact ⟨u, rfl, h.1, h.2.1⟩
  | _ :: _, _ :: _, h, j + 1, v, e => by
    obtain ⟨u, e1, r⟩ := Held.get h.2.2 (j := j) (v := v) (by simpa using e)
    exact ⟨u, by simpa using e1, r⟩
  | [], _ :: _, h, _, _, _ => h.elim
  | _ :: _, [], h, _, _, _ => h.elim
theorem resL_get : ∀ {vs as : List Val}, resL ρ vs = some as → vs.length = as.length ∧ ∀ {j : Nat} {a : Val}, as[j]? = some a → ∃ v, vs[j]? = some v ∧ res ρ v = some a
  | [], as, e => by
    have e' : as = [] := by unfold resL at e; exact (Option.some.inj e).symm
    subst e'
    exact ⟨rfl, fun h => by simp at h⟩
  | v :: vs, as, e => by
    unfold resL at e
    split at e
    · rename_i a as' e1 e2
      have e' := Option.some.inj e
      subst e'
      obtain ⟨l, g⟩ := resL_get e2
      refine ⟨by rw [List.length_cons, List.length_cons, l], fun {j b} h => ?_⟩
      cases j with
      | zero =>
        have e3 : a = b := by simpa using h
        subst e3
        exact ⟨v, rfl, e1⟩
      | succ j =>
        obtain ⟨w, h1, h2⟩ := g (j := j) (a := b) (by simpa using h)
        exact ⟨w, by simpa using h1, h2⟩
    · cases e
theorem map_some_get {α : Type} {l : List α} {i : Nat} {x : α} : (l.map some)[i]? = some (some x) ↔ l[i]? = some x := by
  rw [List.getElem?_map]
  cases l[i]? <;> simp
/-- the callee's ground -/
theorem S8.callee (s : S8 K G H σ ρ) (h : Held K σ G H ρ us vs) (nd : (bors vs).Nodup) (e : resL ρ vs = some as) : S8 K G H (us.map some) (as.map some) := by
  obtain ⟨l, g⟩ := resL_get e
  have at_ : ∀ {j : Nat} {a : Val}, as[j]? = some a → ∃ u v, us[j]? = some u ∧ vs[j]? = some v ∧ res ρ v = some a ∧ RelW K G H σ u a ∧ NoBor a ∧ ∀ b, ¬ foot H u v b := fun {j a} ha => by
    obtain ⟨v, hv, hr⟩ := g ha
    obtain ⟨u, hu, r, nf⟩ := h.get hv
    have q := res.rel s r hr
    exact ⟨u, v, hu, hv, hr, q.1, q.2, nf⟩
  refine ⟨s.gh, s.ht, by rw [List.length_map, List.length_map, h.len, l], fun i a ha => ?_, fun i j u a u' a' b ne h1 h2 h3 h4 f f' => ?_⟩
  · obtain ⟨u, v, hu, hv, hr, r, nb, nf⟩ := at_ (map_some_get.mp ha)
    exact ⟨nb, u, map_some_get.mpr hu, RelW.any nb r⟩
  · obtain ⟨u1, v1, hu1, hv1, hr1, r1, nb1, nf1⟩ := at_ (map_some_get.mp h2)
    obtain ⟨u2, v2, hu2, hv2, hr2, r2, nb2, nf2⟩ := at_ (map_some_get.mp h4)
    have e1 : u1 = u := by have := map_some_get.mp h1; rw [hu1] at this; exact Option.some.inj this
    have e2 : u2 = u' := by have := map_some_get.mp h3; rw [hu2] at this; exact Option.some.inj this
    subst e1 e2
    have bo : ∀ {v a : Val} {u : V}, res ρ v = some a → (∀ b, ¬ foot H u v b) → ∀ {b}, foot H u a b → ∃ k, v = .bor k := fun {v a u} hr nf {b} f => by
      cases v with
      | bor k => exact ⟨k, rfl⟩
      | _ => cases hr; exact (nf _ f).elim
    obtain ⟨k1, rfl⟩ := bo hr1 nf1 f
    obtain ⟨k2, rfl⟩ := bo hr2 nf2 f'
    have hk : k1 ≠ k2 := fun z => by subst z; exact ne (bors_inj nd hv1 hv2)
    obtain ⟨w1, g1, q1, _⟩ := h.get hv1
    obtain ⟨w2, g2, q2, _⟩ := h.get hv2
    rw [hu1] at g1; cases g1
    rw [hu2] at g2; cases g2
    have p1 : ρ[k1]? = some (some a) := (res_bor hr1).1
    have p2 : ρ[k2]? = some (some a') := (res_bor hr2).1
    exact s.sep k1 k2 u1 a u2 a' b hk q1 p1 q2 p2 f f'
/-- what the callee owns is owned by a slot that was lent -/
theorem Own.callee (s : S8 K G H σ ρ) (h : Held K σ G H ρ us vs) (e : resL ρ vs = some as) {b : Addr} (o : Own H (us.map some) (as.map some) b) : ∃ (j k : Nat) (u : V) (a : Val), vs[j]? = some (.bor k) ∧ us[j]? = some u ∧ as[j]? = some a ∧ σ[k]? = some (some u) ∧ ρ[k]? = some (some a) ∧ foot H u a b := by
  obtain ⟨j, u, a, h1, h2, f⟩ := o
  have hu := map_some_get.mp h1
  have ha := map_some_get.mp h2
  obtain ⟨l, g⟩ := resL_get e
  obtain ⟨v, hv, hr⟩ := g ha
  obtain ⟨u', hu', r, nf⟩ := h.get hv
  rw [hu] at hu'; cases hu'
  cases v with
  | bor k =>
    exact ⟨j, k, u, a, hv, hu, ha, r, (res_bor hr).1, f⟩
  | _ => cases hr; exact (nf _ f).elim
/-- behind the call -/
theorem PostE.called {w : V} {x : Val} (s : S8 K G H σ ρ) (h : Held K σ G H ρ us vs) (nd : (bors vs).Nodup) (e : resL ρ vs = some as) (hl : bs.length = as.length) (nx : NoBor x)
    (p : PostE K (us.map some) G H (as.map some) G' H' (bs.map some) w x) : PostE K σ G H ρ G' H' (wb ρ vs bs) w x := by
  obtain ⟨l, g⟩ := resL_get e
  have lus : us.length = vs.length := h.len
  have oc : ∀ {b}, Own H (us.map some) (as.map some) b → Own H σ ρ b := fun {b} o => by
    obtain ⟨j, k, u, a, _, _, _, h1, h2, f⟩ := Own.callee s h e o
    exact ⟨k, u, a, h1, h2, f⟩
  -- a slot that was not lent
  have out : ∀ {i : Nat} {u : V} {v : Val}, i ∉ bors vs → σ[i]? = some (some u) → ρ[i]? = some (some v) → ∀ b, foot H u v b → ¬ Own H (us.map some) (as.map some) b := fun {i u v} hi h1 h2 b f o => by
    obtain ⟨j, k, u', a, hv, _, _, h3, h4, f'⟩ := Own.callee s h e o
    have ne : i ≠ k := fun z => hi (mem_bors.mpr ⟨j, by rw [z]; exact hv⟩)
    exact s.sep i k u v u' a b ne h1 h2 h3 h4 f f'
  -- a slot of the new row
  have slot : ∀ {i : Nat} {v : Val}, (wb ρ vs bs)[i]? = some (some v) → (i ∉ bors vs ∧ ρ[i]? = some (some v)) ∨ ∃ (j : Nat) (u : V), vs[j]? = some (.bor i) ∧ us[j]? = some u ∧ bs[j]? = some v ∧ σ[i]? = some (some u) := fun {i v} hv => by
    by_cases hi : i ∈ bors vs
    · obtain ⟨j, hj⟩ := mem_bors.mp hi
      obtain ⟨u, hu, r, _⟩ := h.get hj
      have hjl : j < bs.length := by
        have := (List.getElem?_eq_some_iff.mp hj).1
        omega
      have hr : σ[i]? = some (some u) := r
      have hil : i < ρ.length := by rw [s.len]; exact (List.getElem?_eq_some_iff.mp hr).1
      have hb : bs[j]? = some bs[j] := List.getElem?_eq_getElem hjl
      have := wb_in nd hj hb hil
      rw [hv] at this
      cases this
      exact .inr ⟨j, u, hj, hu, hb, hr⟩
    · rw [wb_out hi] at hv
      exact .inl ⟨hi, hv⟩
  have kept : ∀ {i : Nat} {u : V} {v : Val}, i ∉ bors vs → σ[i]? = some (some u) → ρ[i]? = some (some v) → RelW K G' H' σ u v ∧ ∀ b, foot H' u v b ↔ foot H u v b := fun {i u v} hi h1 h2 => by
    obtain ⟨nb, u', hu', r⟩ := s.rel i v h2
    rw [h1] at hu'; cases hu'
    exact ⟨r.keep p.ext (out hi h1 h2), foot.keep p.ext r (out hi h1 h2)⟩
  have own' : ∀ {i : Nat} {u : V} {v : Val} {b : Addr}, σ[i]? = some (some u) → (wb ρ vs bs)[i]? = some (some v) → foot H' u v b → (i ∉ bors vs ∧ ρ[i]? = some (some v) ∧ foot H u v b) ∨ (∃ j : Nat, vs[j]? = some (.bor i) ∧ us[j]? = some u ∧ bs[j]? = some v ∧ Own H' (us.map some) (bs.map some) b) := fun {i u v b} h1 h2 f => by
    rcases slot h2 with ⟨hi, hv⟩ | ⟨j, u', hj, hu, hb, hr⟩
    · exact .inl ⟨hi, hv, ((kept hi h1 hv).2 b).mp f⟩
    · rw [h1] at hr; cases hr
      exact .inr ⟨j, hj, hu, hb, j, u, v, map_some_get.mpr hu, map_some_get.mpr hb, f⟩
  refine ⟨⟨p.st.gh, p.st.ht, (wb_len _ _ _).trans s.len, fun i v hv => ?_, fun i j u v u' v' b ne h1 h2 h3 h4 f f' => ?_⟩, p.ext.weak fun b o => oc o, fun b ⟨i, u, v, h1, h2, f⟩ => ?_, fun i v hv hm => ?_, RelW.any nx p.rv, fun b f => ?_⟩
  · rcases slot hv with ⟨hi, hv'⟩ | ⟨j, u, hj, hu, hb, hr⟩
    · obtain ⟨nb, u, hu, _⟩ := s.rel i v hv'
      exact ⟨nb, u, hu, (kept hi hu hv').1⟩
    · obtain ⟨nb, u', hu', r⟩ := p.st.rel j v (map_some_get.mpr hb)
      have := map_some_get.mp hu'
      rw [hu] at this; cases this
      exact ⟨nb, u, hr, RelW.any nb r⟩
  · rcases own' h1 h2 f with ⟨hi, hv, g1⟩ | ⟨k, hk, hku, hkb, o⟩
    · rcases own' h3 h4 f' with ⟨hj, hv', g2⟩ | ⟨k, hk, hku, hkb, o⟩
      · exact s.sep i j u v u' v' b ne h1 hv h3 hv' g1 g2
      · exact out hi h1 hv b g1 (p.mm b o)
    · rcases own' h3 h4 f' with ⟨hj, hv', g2⟩ | ⟨k2, hk2, hku2, hkb2, o2⟩
      · exact out hj h3 hv' b g2 (p.mm b o)
      · have hkk : k ≠ k2 := fun z => by
          subst z
          rw [hk] at hk2
          cases hk2
          exact ne rfl
        exact p.st.sep k k2 u v u' v' b hkk (map_some_get.mpr hku) (map_some_get.mpr hkb) (map_some_get.mpr hku2) (map_some_get.mpr hkb2) f f'
  · rcases own' h1 h2 f with ⟨hi, hv, g1⟩ | ⟨k, hk, hku, hkb, o⟩
    · exact ⟨i, u, v, h1, hv, g1⟩
    · exact oc (p.mm b o)
  · rcases slot hv with ⟨hi, hv'⟩ | ⟨j, u, hj, hu, hb, hr⟩
    · exact ⟨rfl, v, hv', hm, fun u b h1 f => ((kept hi h1 hv').2 b).mp f⟩
    · obtain ⟨_, w, hw, hmw, fw⟩ := p.mt j v (map_some_get.mpr hb) hm
      have hw' := map_some_get.mp hw
      obtain ⟨v', hv', hr'⟩ := g hw'
      rw [hj] at hv'; cases hv'
      refine ⟨rfl, w, (res_bor hr').1, hmw, fun u' b h1 f => ?_⟩
      rw [hr] at h1; cases h1
      exact fw u b (map_some_get.mpr hu) f
  · obtain ⟨n1, n2⟩ := p.fv b f
    refine ⟨fun ⟨i, u, v, h1, h2, f2⟩ => ?_, n2.imp oc id⟩
    rcases own' h1 h2 f2 with ⟨hi, hv, g1⟩ | ⟨k, hk, hku, hkb, o⟩
    · rcases n2 with n2 | n2
      · exact out hi h1 hv b g1 n2
      · obtain ⟨_, u', hu', r⟩ := s.rel i v hv
        rw [h1] at hu'; cases hu'
        exact foot.there r g1 n2
    · exact n1 o
/-- .. behind an exception -/
theorem PostX.called (s : S8 K G H σ ρ) (h : Held K σ G H ρ us vs) (nd : (bors vs).Nodup) (e : resL ρ vs = some as) (p : PostX K (us.map some) G H (as.map some) G' H' (as.map some)) : PostX K σ G H ρ G' H' ρ := by
  have oc : ∀ {b}, Own H (us.map some) (as.map some) b → ∃ (j k : Nat) (u : V) (a : Val), vs[j]? = some (.bor k) ∧ us[j]? = some u ∧ as[j]? = some a ∧ σ[k]? = some (some u) ∧ ρ[k]? = some (some a) ∧ foot H u a b := fun {b} o => Own.callee s h e o
  have p' : PostE K (us.map some) G H (as.map some) G' H' (as.map some) .non (.dat .none) := p.dat .non
  have q := PostE.called s h nd e rfl (show NoBor (.dat .none) from trivial) p'
  have ew : wb ρ vs as = ρ := by
    refine List.ext_getElem? fun i => ?_
    by_cases hi : i ∈ bors vs
    · obtain ⟨j, hj⟩ := mem_bors.mp hi
      obtain ⟨u, hu, r, _⟩ := h.get hj
      obtain ⟨l, g⟩ := resL_get e
      have hjl : j < as.length := by
        have := (List.getElem?_eq_some_iff.mp hj).1
        omega
      obtain ⟨v, hv, hr⟩ := g (List.getElem?_eq_getElem hjl)
      rw [hj] at hv; cases hv
      have hil : i < ρ.length := by rw [s.len]; exact (List.getElem?_eq_some_iff.mp (show σ[i]? = some (some u) from r)).1
      rw [wb_in nd hj (List.getElem?_eq_getElem hjl) hil]
      exact (res_bor hr).1.symm
    · exact wb_out hi
  rw [ew] at q
  exact q.x
end
section
variable {Γ : Gam} {N : List Str} {sc : Scope}
theorem run_call {f : String} {X : Cx} {W : WX} (kn : Kn Γ X sc N W) {G0 H0 G H : Hp} {σ : L2.St} {ρ0 ρ : Env} {us : List V} {vs : List Val} {Q : VK} (p0 : PostX X.K σ G0 H0 ρ0 G H ρ) (h : Held X.K σ G H ρ us vs)
    (w : WP (callV Γ.Φ f vs ρ) (fun v ρ' => ∀ u G' H', PostE X.K σ G0 H0 ρ0 G' H' ρ' u v → Q u H') (ExQ Γ X.K W σ G0 H0 ρ0))
    {n : Nat} (hl : us.length = n) : spOf Γ.xr n X.K (Γ.Φ f) us H Q (WE W σ) := by
  unfold callV at w
  split at w
  · exact w.elim
  · rename_i as ea
    split at w
    · rename_i nd'
      have nd := noDup_iff nd'
      refine ⟨hl, G, as, p0.st.callee h nd ea, ?_⟩
      split at w
      · rename_i v bs er
        rw [er]
        split at w
        · rename_i hv
          intro u G' H' nb pe
          exact w u G' H' (p0.transE (PostE.called p0.st h nd ea hv.2 nb pe))
        · exact w.elim
      · rename_i x er
        rw [er]
        intro cls d G' H' px hx
        exact w cls d G' H' (p0.trans (PostX.called p0.st h nd ea px)) hx
      · exact w.elim
    · exact w.elim
theorem sE_call {f : String} {n : Nat} {e : Expr} {es : List Expr} {p pos : Pos} {g : EvL} (hf : (f, n) ∈ Γ.fns) (hg : glB sc f = true) (ha : SndA Γ N sc (e :: es) g) (hn : (e :: es).length = n := by rfl) (hd : ((f : Str) == ("__debug__" : Str)) = false := by decide)
    (he : ∀ env, starEach (e :: es) env = (false, eval e env) :: starEach es env := by intro _; rfl) (hpl : ∀ env, (backTo pos (starEach es env)).any (·.1) = false := by intro _; rfl) :
    SndE Γ N sc (.Call (.Name f p) (e :: es) [] pos) (cCall Γ.Φ f g) := by
  intro X W kn G H σ ρ Q s w
  obtain ⟨a, fd, ps, F, hm, hk, hb⟩ := kn.fn _ hf
  refine tE_of (pe_callS (E := WE W) F kn.room (gl_of kn.sc hg) hm hk hb (fun σ => passAt kn.tk σ) (pa_star' (es := e :: es)) hd (he X.env) (hpl X.env)) ?_
  unfold cCall at w
  rw [WP_bnd] at w
  refine ha X W kn G H σ ρ _ s ?_
  exact w.mono (fun vs ρ1 w1 us G1 H1 p1 hd1 hl => run_call kn p1 hd1 w1 (hl.trans hn)) fun x ρ' hx => hx
end
end PP

end
section
set_option maxHeartbeats 1000000
set_option Elab.async false
set_option linter.all false
set_option maxRecDepth 100000
/-! PPd: the pure layer: statements, blocks, tests, loops. -/
namespace PP
open PySem PySem.Spec PyProof.Rows L2

inductive Fl where
  | nx | bk | ct
  | rt (v : Val)
abbrev Ex := Env → Option (Rs Fl)

structure PostS (K : PySem.W.Frag) (np : Nat) (σ : L2.St) (G H : Hp) (ρ : Env) (σ' : L2.St) (G' H' : Hp) (ρ' : Env) : Prop where
  st : S8 K G' H' σ' ρ'
  ext : Ext (Own H σ ρ) G H G' H'
  mm : ∀ b, Own H' σ' ρ' b → Own H σ ρ b ∨ H b = none
  mt : ∀ j : Nat, j < np → KeepM H σ ρ H' σ' ρ' j
  ln : σ'.length = σ.length
section
variable {K : PySem.W.Frag} {np : Nat} {σ σ1 σ2 : L2.St} {G H G1 H1 G2 H2 : Hp} {ρ ρ1 ρ2 : Env} {u : V} {v : Val}
theorem PostX.toS (p : PostX K σ G H ρ G1 H1 ρ1) : PostS K np σ G H ρ σ G1 H1 ρ1 := ⟨p.st, p.ext, fun b o => .inl (p.mm b o), fun j _ => p.mt j, rfl⟩
theorem PostS.trans (p : PostS K np σ G H ρ σ1 G1 H1 ρ1) (q : PostS K np σ1 G1 H1 ρ1 σ2 G2 H2 ρ2) : PostS K np σ G H ρ σ2 G2 H2 ρ2 where
  st := q.st
  ext := p.ext.trans q.ext p.mm
  mm := fun b o => (q.mm b o).elim (p.mm b) fun z => .inr (by
    cases e : H b with
    | none => rfl
    | some x => exact absurd z (p.ext.th b (by rw [e]; simp)))
  mt := fun j h => (p.mt j h).trans (q.mt j h)
  ln := q.ln.trans p.ln
theorem S8.postS (s : S8 K G H σ ρ) : PostS K np σ G H ρ σ G H ρ := s.postX.toS
/-- a value that is handed out, apart from what the slots own -/
structure Out (K : PySem.W.Frag) (σ : L2.St) (G H : Hp) (ρ : Env) (σ' : L2.St) (G' H' : Hp) (ρ' : Env) (u : V) (v : Val) : Prop where
  nb : NoBor v
  rv : RelW K G' H' σ' u v
  fv : ∀ b, foot H' u v b → ¬ Own H' σ' ρ' b ∧ (Own H σ ρ b ∨ H b = none)
end
/-- what is wished behind a statement -/
def SQ (K : PySem.W.Frag) (np : Nat) (σ : L2.St) (G H : Hp) (ρ : Env) (D : Ends) : Fl → Env → Prop
  | .nx, ρ' => ∀ σ' G' H', PostS K np σ G H ρ σ' G' H' ρ' → D.nx σ' H'
  | .bk, ρ' => ∀ σ' G' H', PostS K np σ G H ρ σ' G' H' ρ' → D.bk σ' H'
  | .ct, ρ' => ∀ σ' G' H', PostS K np σ G H ρ σ' G' H' ρ' → D.ct σ' H'
  | .rt v, ρ' => ∀ σ' G' H' u, PostS K np σ G H ρ σ' G' H' ρ' → Out K σ G H ρ σ' G' H' ρ' u v → D.rt u H'
def ExS (Γ : Gam) (K : PySem.W.Frag) (W : WX) (np : Nat) (σ : L2.St) (G H : Hp) (ρ : Env) : PyX → Env → Prop := fun x ρ' => ∀ cls d σ' G' H', PostS K np σ G H ρ σ' G' H' ρ' → Γ.xr x cls d H' → W cls d σ' H'
section
variable {Γ : Gam} {W : WX} {K : PySem.W.Frag} {np : Nat} {σ σ1 σ2 : L2.St} {G H G1 H1 G2 H2 : Hp} {ρ ρ1 ρ2 : Env} {u : V} {v : Val} {D : Ends}
theorem SQ.step (p : PostS K np σ G H ρ σ1 G1 H1 ρ1) {fl : Fl} {ρ' : Env} (h : SQ K np σ G H ρ D fl ρ') : SQ K np σ1 G1 H1 ρ1 D fl ρ' := by
  cases fl with
  | nx => exact fun σ' G' H' q => h σ' G' H' (p.trans q)
  | bk => exact fun σ' G' H' q => h σ' G' H' (p.trans q)
  | ct => exact fun σ' G' H' q => h σ' G' H' (p.trans q)
  | rt v =>
    refine fun σ' G' H' u q o => h σ' G' H' u (p.trans q) ⟨o.nb, o.rv, fun b f => ⟨(o.fv b f).1, (o.fv b f).2.elim (p.mm b) fun z => .inr ?_⟩⟩
    cases e : H b with
    | none => rfl
    | some x => exact absurd z (p.ext.th b (by rw [e]; simp))
theorem ExS.step (p : PostS K np σ G H ρ σ1 G1 H1 ρ1) {x : PyX} {ρ' : Env} (h : ExS Γ K W np σ G H ρ x ρ') : ExS Γ K W np σ1 G1 H1 ρ1 x ρ' :=
  fun cls d σ' G' H' q r => h cls d σ' G' H' (p.trans q) r
theorem ExS.exQ (p : PostS K np σ G H ρ σ1 G1 H1 ρ1) {x : PyX} {ρ' : Env} (h : ExS Γ K W np σ G H ρ x ρ') : ExQ Γ K W σ1 G1 H1 ρ1 x ρ' :=
  fun cls d G' H' q r => h cls d σ1 G' H' (p.trans q.toS) r
end
structure KnS (Γ : Gam) (X : Cx) (sc : Scope) (N : List Str) (W : WX) : Prop extends Kn Γ X sc N W where
  po : PassesOwn (model X.prog X.w) X.A X.env X.xe
  cf : ∀ x, X.fn x = true

def tS (X : Cx) (st : Stmt) : TS := fun D σ H => ∀ (pins : List (Addr × Obj)) (s : Shared), Inv X pins σ H s → wpAny (model X.prog X.w) X.A (exec st X.env) (SP X pins D) X.xe s
def tSs (X : Cx) (st : List Stmt) : TS := fun D σ H => ∀ (pins : List (Addr × Obj)) (s : Shared), Inv X pins σ H s → wpAny (model X.prog X.w) X.A (execs st X.env) (SP X pins D) X.xe s
theorem ps_star {X : Cx} {st : Stmt} : PS X st (tS X st) := ⟨fun pins s _ _ _ I h => h pins s I⟩
theorem pss_star {X : Cx} {st : List Stmt} : PSs X st (tSs X st) := ⟨fun pins s _ _ _ I h => h pins s I⟩
theorem tS_of {X : Cx} {st : Stmt} {t : TS} (p : PS X st t) {D : Ends} {σ : L2.St} {H : Hp} (h : t D σ H) : tS X st D σ H := fun pins s I => p.run pins s σ H D I h
theorem tSs_of {X : Cx} {st : List Stmt} {t : TS} (p : PSs X st t) {D : Ends} {σ : L2.St} {H : Hp} (h : t D σ H) : tSs X st D σ H := fun pins s I => p.run pins s σ H D I h
def SndS (Γ : Gam) (N : List Str) (np : Nat) (sc : Scope) (st : Stmt) (f : Ex) : Prop :=
  ∀ (X : Cx) (W : WX), KnS Γ X sc N W → ∀ (G H : Hp) (σ : L2.St) (ρ : Env) (D : Ends), S8 X.K G H σ ρ → σ.length = N.length → WP (f ρ) (SQ X.K np σ G H ρ D) (ExS Γ X.K W np σ G H ρ) → tS X st D σ H
def SndB (Γ : Gam) (N : List Str) (np : Nat) (sc : Scope) (st : List Stmt) (f : Ex) : Prop :=
  ∀ (X : Cx) (W : WX), KnS Γ X sc N W → ∀ (G H : Hp) (σ : L2.St) (ρ : Env) (D : Ends), S8 X.K G H σ ρ → σ.length = N.length → WP (f ρ) (SQ X.K np σ G H ρ D) (ExS Γ X.K W np σ G H ρ) → tSs X st D σ H
/-- a statement's slots are those of the def: told by the invariant -/
theorem tS_len {X : Cx} {st : Stmt} {D : Ends} {σ : L2.St} {H : Hp} (h : σ.length = X.N.length → tS X st D σ H) : tS X st D σ H := fun pins s I => h I.len pins s I
theorem tSs_len {X : Cx} {st : List Stmt} {D : Ends} {σ : L2.St} {H : Hp} (h : σ.length = X.N.length → tSs X st D σ H) : tSs X st D σ H := fun pins s I => h I.len pins s I

section
variable {Γ : Gam} {N : List Str} {np : Nat} {sc : Scope}
/-- the values of an expression, in a statement -/
theorem SndE.goS {e : Expr} {f : Ev} (h : SndE Γ N sc e f) {X : Cx} {W : WX} (kn : Kn Γ X sc N W) {G0 H0 G H : Hp} {σ0 σ : L2.St} {ρ0 ρ : Env} {g : Val → Env → Option (Rs Fl)} {D : Ends}
    (p : PostS X.K np σ0 G0 H0 ρ0 σ G H ρ) (w : WP (bnd (f ρ) g) (SQ X.K np σ0 G0 H0 ρ0 D) (ExS Γ X.K W np σ0 G0 H0 ρ0)) :
    tE X e σ H (fun u H1 => ∃ G1 ρ1 v, PostE X.K σ G H ρ G1 H1 ρ1 u v ∧ PostS X.K np σ0 G0 H0 ρ0 σ G1 H1 ρ1 ∧ WP (g v ρ1) (SQ X.K np σ0 G0 H0 ρ0 D) (ExS Γ X.K W np σ0 G0 H0 ρ0)) := by
  refine h X W kn G H σ ρ _ p.st ?_
  rw [WP_bnd] at w
  exact w.mono (fun v ρ1 hw u G1 H1 pe => ⟨G1, ρ1, v, pe, p.trans pe.x.toS, hw⟩) fun x ρ' hx => ExS.exQ p hx

/-! ### blocks -/
def bNil : Ex := fun ρ => some (.ok .nx ρ)
def bSeq (f g : Ex) : Ex := fun ρ => bnd (f ρ) fun fl ρ1 => match fl with
  | .nx => g ρ1
  | fl => some (.ok fl ρ1)
theorem sB_nil : SndB Γ N np sc [] bNil := fun X W kn G H σ ρ D s _ w => tSs_of pss_nil (w σ G H s.postS)
theorem sB_cons {st : Stmt} {rest : List Stmt} {f g : Ex} (hf : SndS Γ N np sc st f) (hg : SndB Γ N np sc rest g) : SndB Γ N np sc (st :: rest) (bSeq f g) := by
  intro X W kn G H σ ρ D s hl w
  refine tSs_of (pss_cons ps_star pss_star) ?_
  refine hf X W kn G H σ ρ { D with nx := tSs X rest D } s hl ?_
  unfold bSeq at w
  rw [WP_bnd] at w
  refine w.mono (fun fl ρ1 hw => ?_) fun x ρ' hx => hx
  cases fl with
  | nx => exact fun σ1 G1 H1 p => tSs_len fun hl1 => hg X W kn G1 H1 σ1 ρ1 D p.st (hl1.trans (by rw [kn.nn])) (hw.mono (fun _ _ q => SQ.step p q) fun _ _ q => ExS.step p q)
  | bk => exact hw
  | ct => exact hw
  | rt v => exact hw
theorem sB_one {st : Stmt} {f : Ex} (hf : SndS Γ N np sc st f) : SndB Γ N np sc [st] f := by
  intro X W kn G H σ ρ D s hl w
  exact tSs_of (pss_one ps_star) (hf X W kn G H σ ρ D s hl w)

/-! ### small statements -/
theorem sS_pass {pos : Pos} : SndS Γ N np sc (.Pass pos) bNil := fun X W kn G H σ ρ D s _ w => tS_of ps_pass (w σ G H s.postS)
def sBrk : Ex := fun ρ => some (.ok .bk ρ)
def sCnt : Ex := fun ρ => some (.ok .ct ρ)
theorem sS_break {pos : Pos} : SndS Γ N np sc (.Break pos) sBrk := fun X W kn G H σ ρ D s _ w => tS_of ps_break (w σ G H s.postS)
theorem sS_continue {pos : Pos} : SndS Γ N np sc (.Continue pos) sCnt := fun X W kn G H σ ρ D s _ w => tS_of ps_continue (w σ G H s.postS)
def sRet (f : Ev) : Ex := fun ρ => bnd (f ρ) fun v ρ1 => if noBor v = true then some (.ok (.rt v) ρ1) else none
theorem sS_ret {e : Expr} {pos : Pos} {f : Ev} (h : SndE Γ N sc e f) : SndS Γ N np sc (.Return (some e) pos) (sRet f) := by
  intro X W kn G H σ ρ D s _ w
  refine tS_of (ps_ret pe_star) ?_
  refine (h.goS kn.toKn s.postS w).mono fun u H1 ⟨G1, ρ1, v, pe, p1, w1⟩ => ?_
  split at w1
  · rename_i nb
    exact w1 σ G1 H1 u p1 ⟨noBor_iff.mp nb, pe.rv, pe.fv⟩
  · exact w1.elim
def sDrop (f : Ev) : Ex := fun ρ => bnd (f ρ) fun _ ρ1 => some (.ok .nx ρ1)
theorem sS_expr {e : Expr} {pos : Pos} {f : Ev} (h : SndE Γ N sc e f) (hs : ∀ env, swapsWith e none pos.line env = pure false := by intro _; rfl) : SndS Γ N np sc (.Expr e pos) (sDrop f) := by
  intro X W kn G H σ ρ D s _ w
  refine tS_of (ps_expr pe_star (hs X.env)) ?_
  exact (h.goS kn.toKn s.postS w).mono fun u H1 ⟨G1, ρ1, v, pe, p1, w1⟩ => w1 σ G1 H1 p1

/-! ### stores -/
def setOk (np i : Nat) (v : Val) (ρ : Env) : Bool := noBor v && (!(decide (i < np)) || (!isMut v && !(match ρ[i]? with | some (some w) => isMut w | _ => false)))
def setV (np i : Nat) (v : Val) (ρ : Env) : Option Env := if setOk np i v ρ = true then some (ρ.set i (some v)) else none
theorem S8.set {K : PySem.W.Frag} {σ0 σ : L2.St} {G0 H0 G H : Hp} {ρ0 ρ ρ' : Env} {u : V} {v : Val} {i : Nat} (p : PostS K np σ0 G0 H0 ρ0 σ G H ρ) (nb : NoBor v) (rv : RelW K G H σ u v) (fv : ∀ b, foot H u v b → ¬ Own H σ ρ b ∧ (Own H0 σ0 ρ0 b ∨ H0 b = none))
    (hi : i < σ.length) (e : setV np i v ρ = some ρ') : PostS K np σ0 G0 H0 ρ0 (σ.set i (some u)) G H ρ' := by
  unfold setV at e
  split at e
  · rename_i ok
    cases e
    have hiρ : i < ρ.length := by rw [p.st.len]; exact hi
    have at_ : ∀ {j : Nat} {u' : V} {v' : Val}, (σ.set i (some u))[j]? = some (some u') → (ρ.set i (some v))[j]? = some (some v') → (j = i ∧ u' = u ∧ v' = v) ∨ (j ≠ i ∧ σ[j]? = some (some u') ∧ ρ[j]? = some (some v')) := fun {j u' v'} h1 h2 => by
      by_cases hj : j = i
      · subst hj
        rw [List.getElem?_set_self hi] at h1
        rw [List.getElem?_set_self hiρ] at h2
        cases h1; cases h2
        exact .inl ⟨rfl, rfl, rfl⟩
      · rw [List.getElem?_set_ne (Ne.symm hj)] at h1 h2
        exact .inr ⟨hj, h1, h2⟩
    refine ⟨⟨p.st.gh, p.st.ht, by rw [List.length_set, List.length_set]; exact p.st.len, fun j w hw => ?_, fun j k u1 v1 u2 v2 b ne h1 h2 h3 h4 f f' => ?_⟩, p.ext, fun b ⟨j, u1, v1, h1, h2, f⟩ => ?_, fun j hj w hw hm => ?_, by rw [List.length_set]; exact p.ln⟩
    · by_cases hj : j = i
      · subst hj
        rw [List.getElem?_set_self hiρ] at hw
        cases hw
        exact ⟨nb, u, List.getElem?_set_self hi, RelW.any nb rv⟩
      · rw [List.getElem?_set_ne (Ne.symm hj)] at hw
        obtain ⟨nb', u', hu, r⟩ := p.st.rel j w hw
        exact ⟨nb', u', by rw [List.getElem?_set_ne (Ne.symm hj)]; exact hu, RelW.any nb' r⟩
    · rcases at_ h1 h2 with ⟨e1, e2, e3⟩ | ⟨n1, a1, a2⟩
      · subst e2 e3
        rcases at_ h3 h4 with ⟨e4, e5, e6⟩ | ⟨n2, a3, a4⟩
        · exact ne (e1.trans e4.symm)
        · exact (fv b f).1 ⟨k, u2, v2, a3, a4, f'⟩
      · rcases at_ h3 h4 with ⟨e4, e5, e6⟩ | ⟨n2, a3, a4⟩
        · subst e5 e6
          exact (fv b f').1 ⟨j, u1, v1, a1, a2, f⟩
        · exact p.st.sep j k u1 v1 u2 v2 b ne a1 a2 a3 a4 f f'
    · rcases at_ h1 h2 with ⟨e1, e2, e3⟩ | ⟨n1, a1, a2⟩
      · subst e2 e3
        exact (fv b f).2
      · exact p.mm b ⟨j, u1, v1, a1, a2, f⟩
    · by_cases hji : j = i
      · subst hji
        rw [List.getElem?_set_self hiρ] at hw
        cases hw
        unfold setOk at ok
        rw [Bool.and_eq_true, Bool.or_eq_true] at ok
        rcases ok.2 with z | z
        · rw [decide_eq_true hj] at z; cases z
        · rw [hm] at z; cases z
      · rw [List.getElem?_set_ne (Ne.symm hji)] at hw ⊢
        exact p.mt j hj w hw hm
  · cases e
def locB (sc : Scope) (x : Str) : Bool := match sc.names.lookup x with
  | some .local => true
  | some .cell => true
  | _ => false
theorem loc_of {sc : Scope} {x : Str} (h : locB sc x = true) : Loc sc x := by
  unfold locB at h
  split at h
  · exact .inl (by assumption)
  · exact .inr (by assumption)
  · cases h
def stV (np i : Nat) (v : Val) (ρ : Env) : Option (Rs Fl) := match setV np i v ρ with
  | some ρ' => some (.ok .nx ρ')
  | none => none
def sSet (np i : Nat) (f : Ev) : Ex := fun ρ => bnd (f ρ) fun v ρ1 => stV np i v ρ1
theorem lt_of_get {α : Type} {l : List α} {i : Nat} {x : α} (h : l[i]? = some x) : i < l.length := (List.getElem?_eq_some_iff.mp h).1
theorem setV_nb {np i : Nat} {v : Val} {ρ ρ' : Env} (e : setV np i v ρ = some ρ') : NoBor v := by
  unfold setV at e
  split at e
  · rename_i ok
    unfold setOk at ok
    exact noBor_iff.mp (Bool.and_eq_true_iff.mp ok).1
  · cases e
theorem sS_set {i : Nat} {x : Str} {e : Expr} {pos pos' : Pos} {f : Ev} (hN : N[i]? = some x) (hx : locB sc x = true) (h : SndE Γ N sc e f) (hs : ∀ env : PySem.Env, env.scope = sc → swapsWith e (some (.Name x pos')) pos.line env = pure false := by intro _ _; rfl) :
    SndS Γ N np sc (.Assign [.Name x pos'] e pos) (sSet np i f) := by
  intro X W kn G H σ ρ D s hl w
  refine tS_of (ps_set (i := i) (kn.nn ▸ kn.nd) (kn.nn ▸ hN) (kn.sc ▸ loc_of hx) pe_star (hs X.env kn.sc) (.inl (kn.cf x))) ?_
  refine (h.goS kn.toKn s.postS w).mono fun u H1 ⟨G1, ρ1, v, pe, p1, w1⟩ => ?_
  unfold stV at w1
  split at w1
  · rename_i ρ' e
    exact w1 _ G1 H1 (S8.set p1 (setV_nb e) pe.rv pe.fv (by rw [hl]; exact lt_of_get hN) e)
  · exact w1.elim
end
end PP

end
section
set_option maxHeartbeats 1000000
set_option Elab.async false
set_option linter.all false
set_option maxRecDepth 100000
/-! PPe: the pure layer: tests, and, or, not, if; for, while; parallel stores. -/
namespace PP
open PySem PySem.Spec PyProof.Rows L2

/-- an operation's rule at its values -/
def rOp (K : PySem.W.Frag) (op : Op2) : R2 := fun x y H Q => ∃ (G : Hp) (σ' : L2.St) (a b : Val) (d : PyData), (∀ p o, G p = some o → H p = some o) ∧ RelW K G H σ' x a ∧ RelW K G H σ' y b ∧ NoBor a ∧ NoBor b ∧ op a b = some d ∧ ∀ z G' H', New G H G' H' → Dt K G' z d → Q z H'
theorem OpS.opR {f : Value → Value → Sem Value} {op : Op2} (ho : OpS f op) {X : Cx} (hc : X.calm = true) (hu : X.A.units + 200 < cLine) : OpR X f (rOp X.K op) := by
  intro pins s σ H x y v u Q I rx ry ⟨G, σ', a, b, d, gh, ra, rb, na, nb, e, q⟩
  exact ho X hc hu pins s σ σ' G H x y v u a b d Q I rx ry gh ra rb na nb e q
section
variable {Γ : Gam} {N : List Str} {np : Nat} {sc : Scope}
/-- two operands of an operation, by its rule -/
theorem op_go {op : Op2} {K : PySem.W.Frag} {G G0 H0 H : Hp} {σ : L2.St} {ρ0 ρ : Env} {x y : V} {v w : Val} {q : Val → Env → Prop} {ex : PyX → Env → Prop} {Q : VK} (p : PostX K σ G0 H0 ρ0 G H ρ) (rx : RelW K G H σ x v) (ry : RelW K G H σ y w)
    (h : WP (fin2 op v w ρ) q ex) (hq : ∀ z d G' H', New G H G' H' → Dt K G' z d → q (.dat d) ρ → Q z H') : rOp K op x y H Q := by
  unfold fin2 at h
  split at h
  · rename_i a b ea eb
    have r1 := res.rel p.st rx ea
    have r2 := res.rel p.st ry eb
    cases hd : op a b with
    | none => rw [hd] at h; exact h.elim
    | some d =>
      rw [hd] at h
      exact ⟨G, σ, a, b, d, p.st.gh, r1.1, r2.1, r1.2, r2.2, hd, fun z G' H' nw dt => hq z d G' H' nw dt h⟩
  · exact h.elim

/-! ### tests -/
def tT (X : Cx) (e : Expr) : TT := fun σ H Q => ∀ (pins : List (Addr × Obj)) (s : Shared), Inv X pins σ H s → wpAny (model X.prog X.w) X.A (isTrue e X.env (eval e X.env)) (TP X pins σ Q) X.xe s
def tW (X : Cx) (e : Expr) : TT := fun σ H Q => ∀ (whole : Sem Value) (pins : List (Addr × Obj)) (s : Shared), Inv X pins σ H s → wpAny (model X.prog X.w) X.A (isTrue e X.env whole) (TP X pins σ Q) X.xe s
theorem pt_star {X : Cx} {e : Expr} : PT X e (tT X e) := ⟨fun pins s _ _ _ I h => h pins s I⟩
theorem pw_star {X : Cx} {e : Expr} : PW X e (tW X e) := ⟨fun wh pins s _ _ _ I h => h wh pins s I⟩
theorem tT_of {X : Cx} {e : Expr} {t : TT} (p : PT X e t) {σ : L2.St} {H : Hp} {Q : Bool → Hp → Prop} (h : t σ H Q) : tT X e σ H Q := fun pins s I => p.run pins s σ H Q I h
theorem tW_of {X : Cx} {e : Expr} {t : TT} (p : PW X e t) {σ : L2.St} {H : Hp} {Q : Bool → Hp → Prop} (h : t σ H Q) : tW X e σ H Q := fun wh pins s I => p.run wh pins s σ H Q I h
theorem tT.mono {X : Cx} {e : Expr} {σ : L2.St} {H : Hp} {Q Q' : Bool → Hp → Prop} (h : tT X e σ H Q) (q : ∀ v H', Q v H' → Q' v H') : tT X e σ H Q' :=
  fun pins s I => thn (h pins s I) fun _ _ ⟨H', I', z⟩ => ⟨H', I', q _ H' z⟩
theorem tW.mono {X : Cx} {e : Expr} {σ : L2.St} {H : Hp} {Q Q' : Bool → Hp → Prop} (h : tW X e σ H Q) (q : ∀ v H', Q v H' → Q' v H') : tW X e σ H Q' :=
  fun wh pins s I => thn (h wh pins s I) fun _ _ ⟨H', I', z⟩ => ⟨H', I', q _ H' z⟩
def SndT (Γ : Gam) (N : List Str) (sc : Scope) (e : Expr) (f : EvB) : Prop :=
  ∀ (X : Cx) (W : WX), Kn Γ X sc N W → ∀ (G H : Hp) (σ : L2.St) (ρ : Env) (Q : Bool → Hp → Prop), S8 X.K G H σ ρ →
    WP (f ρ) (fun b ρ' => ∀ G' H', PostX X.K σ G H ρ G' H' ρ' → Q b H') (ExQ Γ X.K W σ G H ρ) → tT X e σ H Q
def SndW (Γ : Gam) (N : List Str) (sc : Scope) (e : Expr) (f : EvB) : Prop :=
  ∀ (X : Cx) (W : WX), Kn Γ X sc N W → ∀ (G H : Hp) (σ : L2.St) (ρ : Env) (Q : Bool → Hp → Prop), S8 X.K G H σ ρ →
    WP (f ρ) (fun b ρ' => ∀ G' H', PostX X.K σ G H ρ G' H' ρ' → Q b H') (ExQ Γ X.K W σ G H ρ) → tW X e σ H Q
theorem SndW.t {e : Expr} {f : EvB} (h : SndW Γ N sc e f) : SndT Γ N sc e f := fun X W kn G H σ ρ Q s w => fun pins st I => h X W kn G H σ ρ Q s w _ pins st I
theorem SndT.go {e : Expr} {f : EvB} (h : SndT Γ N sc e f) {X : Cx} {W : WX} (kn : Kn Γ X sc N W) {G0 H0 G H : Hp} {σ : L2.St} {ρ0 ρ : Env} {α : Type} {g : Bool → Env → Option (Rs α)} {q : α → Env → Prop}
    (p : PostX X.K σ G0 H0 ρ0 G H ρ) (w : WP (bnd (f ρ) g) q (ExQ Γ X.K W σ G0 H0 ρ0)) :
    tT X e σ H (fun b H1 => ∃ G1 ρ1, PostX X.K σ G0 H0 ρ0 G1 H1 ρ1 ∧ WP (g b ρ1) q (ExQ Γ X.K W σ G0 H0 ρ0)) := by
  refine h X W kn G H σ ρ _ p.st ?_
  rw [WP_bnd] at w
  exact w.mono (fun v ρ1 hw G1 H1 pe => ⟨G1, ρ1, p.trans pe, hw⟩) fun x ρ' hx => hx.step p
theorem SndT.goS {e : Expr} {f : EvB} (h : SndT Γ N sc e f) {X : Cx} {W : WX} (kn : Kn Γ X sc N W) {G0 H0 G H : Hp} {σ0 σ : L2.St} {ρ0 ρ : Env} {g : Bool → Env → Option (Rs Fl)} {D : Ends}
    (p : PostS X.K np σ0 G0 H0 ρ0 σ G H ρ) (w : WP (bnd (f ρ) g) (SQ X.K np σ0 G0 H0 ρ0 D) (ExS Γ X.K W np σ0 G0 H0 ρ0)) :
    tT X e σ H (fun b H1 => ∃ G1 ρ1, PostS X.K np σ0 G0 H0 ρ0 σ G1 H1 ρ1 ∧ WP (g b ρ1) (SQ X.K np σ0 G0 H0 ρ0 D) (ExS Γ X.K W np σ0 G0 H0 ρ0)) := by
  refine h X W kn G H σ ρ _ p.st ?_
  rw [WP_bnd] at w
  exact w.mono (fun v ρ1 hw G1 H1 pe => ⟨G1, ρ1, p.trans pe.toS, hw⟩) fun x ρ' hx => ExS.exQ p hx
def asB (v : Val) (ρ : Env) : Option (Rs Bool) := match v with
  | .dat (.bool b) => some (.ok b ρ)
  | _ => none
def cTst (f : Ev) : EvB := fun ρ => bnd (f ρ) asB
theorem sT_val {e : Expr} {f : Ev} (h : SndE Γ N sc e f) (he : ∀ env whole, isTrue e env whole = (do let v ← whole; standAt e.pos; holding [v] (truthy v)) := by intro _ _; rfl) : SndT Γ N sc e (cTst f) := by
  intro X W kn G H σ ρ Q s w
  refine tT_of (pt_val pe_star (he X.env)) ?_
  refine (h.go kn s.postX w).mono fun u H1 ⟨G1, ρ1, v, pe, p1, w1⟩ => ?_
  unfold asB at w1
  split at w1
  · rename_i b
    have r := pe.rv
    cases (show Dt X.K G1 u (.bool b) from r)
    exact ⟨b, rfl, w1 G1 H1 p1⟩
  · exact w1.elim
theorem sT_cmp {o : CmpOp} {a b : Expr} {pos : Pos} {fa fb : Ev} {op : Op2} (ho : OpS (compareOp o) op) (ha : SndE Γ N sc a fa) (hb : SndE Γ N sc b fb) (hm : behindInMarks o b = false) : SndT Γ N sc (.Compare a [o] [b] pos) (cTst (cBin op fa fb)) := by
  intro X W kn G H σ ρ Q s w
  refine tT_of (pt_cmpR (ho.opR kn.calm kn.units) pe_star pe_star hm) ?_
  unfold cTst at w
  rw [WP_bnd] at w
  refine (ha.go kn s.postX w).mono fun x H1 ⟨G1, ρ1, v1, pe1, p1, w1⟩ => ?_
  refine (hb.go kn p1 w1).mono fun y H2 ⟨G2, ρ2, v2, pe2, p2, w2⟩ => ?_
  refine op_go p2 (pe1.keep pe2.x).rv pe2.rv w2 fun z d G' H' nw dt w3 => ?_
  unfold asB at w3
  split at w3
  · rename_i c hd
    cases hd
    cases dt
    exact ⟨c, rfl, w3 G' H' (p2.trans (nw.post p2.st))⟩
  · exact w3.elim
def cNotB (f : EvB) : EvB := fun ρ => bnd (f ρ) fun b ρ1 => some (.ok (!b) ρ1)
theorem sT_not {a : Expr} {pos : Pos} {f : EvB} (h : SndT Γ N sc a f) : SndT Γ N sc (.UnaryOp .Not a pos) (cNotB f) := by
  intro X W kn G H σ ρ Q s w
  refine tT_of (pt_not pt_star) ?_
  exact (h.go kn s.postX w).mono fun b H1 ⟨G1, ρ1, p1, w1⟩ => w1 G1 H1 p1
def cAndB (f g : EvB) : EvB := fun ρ => bnd (f ρ) fun b ρ1 => if b = true then g ρ1 else some (.ok false ρ1)
def cOrB (f g : EvB) : EvB := fun ρ => bnd (f ρ) fun b ρ1 => if b = true then some (.ok true ρ1) else g ρ1
theorem sW_and1 {a : Expr} {pos : Pos} {f : EvB} (h : SndT Γ N sc a f) : SndW Γ N sc (.BoolOp .And [a] pos) f := fun X W kn G H σ ρ Q s w => tW_of (pw_and1 pt_star) (h X W kn G H σ ρ Q s w)
theorem sW_or1 {a : Expr} {pos : Pos} {f : EvB} (h : SndT Γ N sc a f) : SndW Γ N sc (.BoolOp .Or [a] pos) f := fun X W kn G H σ ρ Q s w => tW_of (pw_or1 pt_star) (h X W kn G H σ ρ Q s w)
theorem sW_and {a b : Expr} {rest : List Expr} {pos : Pos} {f g : EvB} (h : SndT Γ N sc a f) (hr : SndW Γ N sc (.BoolOp .And (b :: rest) pos) g) : SndW Γ N sc (.BoolOp .And (a :: b :: rest) pos) (cAndB f g) := by
  intro X W kn G H σ ρ Q s w
  refine tW_of (pw_and pt_star pw_star) ?_
  refine (h.go kn s.postX w).mono fun c H1 ⟨G1, ρ1, p1, w1⟩ => ?_
  cases c with
  | true =>
    rw [if_pos rfl] at w1 ⊢
    exact hr X W kn G1 H1 σ ρ1 _ p1.st (w1.mono (fun b ρ2 q G2 H2 p2 => q G2 H2 (p1.trans p2)) fun x ρ' hx => hx.step p1)
  | false =>
    rw [if_neg Bool.false_ne_true] at w1 ⊢
    exact w1 G1 H1 p1
theorem sW_or {a b : Expr} {rest : List Expr} {pos : Pos} {f g : EvB} (h : SndT Γ N sc a f) (hr : SndW Γ N sc (.BoolOp .Or (b :: rest) pos) g) : SndW Γ N sc (.BoolOp .Or (a :: b :: rest) pos) (cOrB f g) := by
  intro X W kn G H σ ρ Q s w
  refine tW_of (pw_or pt_star pw_star) ?_
  refine (h.go kn s.postX w).mono fun c H1 ⟨G1, ρ1, p1, w1⟩ => ?_
  cases c with
  | true =>
    rw [if_pos rfl] at w1 ⊢
    exact w1 G1 H1 p1
  | false =>
    rw [if_neg Bool.false_ne_true] at w1 ⊢
    exact hr X W kn G1 H1 σ ρ1 _ p1.st (w1.mono (fun b ρ2 q G2 H2 p2 => q G2 H2 (p1.trans p2)) fun x ρ' hx => hx.step p1)
/-! ### .. as values -/
def cAnd (f g : Ev) : Ev := fun ρ => bnd (f ρ) fun v ρ1 => bnd (asB v ρ1) fun b ρ2 => if b = true then g ρ2 else some (.ok (.dat (.bool false)) ρ2)
def cOr (f g : Ev) : Ev := fun ρ => bnd (f ρ) fun v ρ1 => bnd (asB v ρ1) fun b ρ2 => if b = true then some (.ok (.dat (.bool true)) ρ2) else g ρ2
def cNot (f : Ev) : Ev := fun ρ => bnd (f ρ) fun v ρ1 => bnd (asB v ρ1) fun b ρ2 => some (.ok (.dat (.bool (!b))) ρ2)
theorem sE_one {op : BoolOp} {a : Expr} {pos : Pos} {f : Ev} (h : SndE Γ N sc a f) : SndE Γ N sc (.BoolOp op [a] pos) f := fun X W kn G H σ ρ Q s w => tE_of (pe_one pe_star) (h X W kn G H σ ρ Q s w)
theorem bool_of {K : PySem.W.Frag} {σ : L2.St} {G H : Hp} {u : V} {v : Val} {ρ : Env} {α : Type} {g : Bool → Env → Option (Rs α)} {q : α → Env → Prop} {ex : PyX → Env → Prop} (r : RelW K G H σ u v) (w : WP (bnd (asB v ρ) g) q ex) : ∃ b, u = .bl b ∧ WP (g b ρ) q ex := by
  unfold asB at w
  split at w
  · rename_i b
    cases (show Dt K G u (.bool b) from r)
    exact ⟨b, rfl, w⟩
  · exact w.elim
theorem sE_and {a b : Expr} {rest : List Expr} {pos : Pos} {f g : Ev} (h : SndE Γ N sc a f) (hr : SndE Γ N sc (.BoolOp .And (b :: rest) pos) g) : SndE Γ N sc (.BoolOp .And (a :: b :: rest) pos) (cAnd f g) := by
  intro X W kn G H σ ρ Q s w
  refine tE_of (pe_and pe_star pe_star) ?_
  refine (h.go kn s.postX w).mono fun u H1 ⟨G1, ρ1, v, pe, p1, w1⟩ => ?_
  obtain ⟨c, e, w2⟩ := bool_of pe.rv w1
  refine ⟨c, e, ?_⟩
  cases c with
  | true =>
    rw [if_pos rfl] at w2 ⊢
    exact hr X W kn G1 H1 σ ρ1 _ p1.st (w2.mono (fun b ρ2 q u G2 H2 p2 => q u G2 H2 (p1.transE p2)) fun x ρ' hx => hx.step p1)
  | false =>
    rw [if_neg Bool.false_ne_true] at w2 ⊢
    exact w2 _ G1 H1 (p1.dat (.bl false))
theorem sE_or {a b : Expr} {rest : List Expr} {pos : Pos} {f g : Ev} (h : SndE Γ N sc a f) (hr : SndE Γ N sc (.BoolOp .Or (b :: rest) pos) g) : SndE Γ N sc (.BoolOp .Or (a :: b :: rest) pos) (cOr f g) := by
  intro X W kn G H σ ρ Q s w
  refine tE_of (pe_or pe_star pe_star) ?_
  refine (h.go kn s.postX w).mono fun u H1 ⟨G1, ρ1, v, pe, p1, w1⟩ => ?_
  obtain ⟨c, e, w2⟩ := bool_of pe.rv w1
  refine ⟨c, e, ?_⟩
  cases c with
  | true =>
    rw [if_pos rfl] at w2 ⊢
    exact w2 _ G1 H1 (p1.dat (.bl true))
  | false =>
    rw [if_neg Bool.false_ne_true] at w2 ⊢
    exact hr X W kn G1 H1 σ ρ1 _ p1.st (w2.mono (fun b ρ2 q u G2 H2 p2 => q u G2 H2 (p1.transE p2)) fun x ρ' hx => hx.step p1)
theorem sE_not {a : Expr} {pos : Pos} {f : Ev} (h : SndE Γ N sc a f) : SndE Γ N sc (.UnaryOp .Not a pos) (cNot f) := by
  intro X W kn G H σ ρ Q s w
  refine tE_of (pe_not pe_star) ?_
  refine (h.go kn s.postX w).mono fun u H1 ⟨G1, ρ1, v, pe, p1, w1⟩ => ?_
  obtain ⟨c, e, w2⟩ := bool_of pe.rv w1
  exact ⟨c, e, w2 _ G1 H1 (p1.dat (.bl _))⟩
def cIfE (c : EvB) (f g : Ev) : Ev := fun ρ => bnd (c ρ) fun b ρ1 => if b = true then f ρ1 else g ρ1
theorem sE_ifExp {c a b : Expr} {pos : Pos} {fc : EvB} {f g : Ev} (hc : SndT Γ N sc c fc) (ha : SndE Γ N sc a f) (hb : SndE Γ N sc b g) : SndE Γ N sc (.IfExp c a b pos) (cIfE fc f g) := by
  intro X W kn G H σ ρ Q s w
  refine tE_of (pe_ifExp pt_star pe_star pe_star) ?_
  refine (hc.go kn s.postX w).mono fun c H1 ⟨G1, ρ1, p1, w1⟩ => ?_
  have go : ∀ {e : Expr} {h : Ev}, SndE Γ N sc e h → WP (h ρ1) (fun v ρ' => ∀ u G' H', PostE X.K σ G H ρ G' H' ρ' u v → Q u H') (ExQ Γ X.K W σ G H ρ) → tE X e σ H1 Q := fun {e h} he w2 =>
    he X W kn G1 H1 σ ρ1 _ p1.st (w2.mono (fun b ρ2 q u G2 H2 p2 => q u G2 H2 (p1.transE p2)) fun x ρ' hx => hx.step p1)
  cases c with
  | true => rw [if_pos rfl] at w1 ⊢; exact go ha w1
  | false => rw [if_neg Bool.false_ne_true] at w1 ⊢; exact go hb w1
/-- a op b op' c -/
def cChain (op op' : Op2) (fa fb fc : Ev) : Ev := fun ρ => bnd (fa ρ) fun x ρ1 => bnd (fb ρ1) fun y ρ2 => bnd (fin2 op x y ρ2) fun z ρ3 => bnd (asB z ρ3) fun b ρ4 => if b = true then bnd (fc ρ4) fun t ρ5 => fin2 op' y t ρ5 else some (.ok (.dat (.bool false)) ρ4)
theorem chain_go {o o' : CmpOp} {a b c : Expr} {fa fb fc : Ev} {op op' : Op2} (ha : SndE Γ N sc a fa) (hb : SndE Γ N sc b fb) (hc : SndE Γ N sc c fc)
    {X : Cx} {W : WX} (kn : Kn Γ X sc N W) {G H : Hp} {σ : L2.St} {ρ : Env} {Q : VK} (s : S8 X.K G H σ ρ) {q : Val → Env → Prop} (hq : ∀ v ρ', q v ρ' → ∀ u G' H', PostE X.K σ G H ρ G' H' ρ' u v → Q u H')
    (w : WP (cChain op op' fa fb fc ρ) q (ExQ Γ X.K W σ G H ρ)) : tChain (rOp X.K op) (rOp X.K op') (tE X a) (tE X b) (tE X c) σ H Q := by
  refine (ha.go kn s.postX w).mono fun x H1 ⟨G1, ρ1, v1, pe1, p1, w1⟩ => ?_
  refine (hb.go kn p1 w1).mono fun y H2 ⟨G2, ρ2, v2, pe2, p2, w2⟩ => ?_
  rw [WP_bnd] at w2
  refine op_go p2 (pe1.keep pe2.x).rv pe2.rv w2 fun z d G' H' nw dt w3 => ?_
  have p3 := p2.trans (nw.post p2.st)
  have pe3 := pe2.keep (nw.post p2.st)
  obtain ⟨k, e, w4⟩ := bool_of (σ := σ) (H := H') (show RelW X.K G' H' σ z (.dat d) from dt) w3
  refine ⟨k, e, ?_⟩
  cases k with
  | true =>
    rw [if_pos rfl] at w4 ⊢
    refine (hc.go kn p3 w4).mono fun t H4 ⟨G4, ρ4, v4, pe4, p4, w5⟩ => ?_
    exact op_go p4 (pe3.keep pe4.x).rv pe4.rv w5 fun z d G' H' nw dt w6 => hq _ _ w6 z G' H' ((p4.trans (nw.post p4.st)).dat dt)
  | false =>
    rw [if_neg Bool.false_ne_true] at w4 ⊢
    exact hq _ _ w4 _ G' H' (p3.dat (.bl false))
theorem sE_chain {o o' : CmpOp} {a b c : Expr} {pos : Pos} {fa fb fc : Ev} {op op' : Op2} (ho : OpS (compareOp o) op) (ho' : OpS (compareOp o') op') (ha : SndE Γ N sc a fa) (hb : SndE Γ N sc b fb) (hc : SndE Γ N sc c fc)
    (hm : lastMarks [o, o'] [b, c] = false := by with_unfolding_all rfl) : SndE Γ N sc (.Compare a [o, o'] [b, c] pos) (cChain op op' fa fb fc) := fun X W kn G H σ ρ Q s w =>
  tE_of (pe_chain (ho.opR kn.calm kn.units) (ho'.opR kn.calm kn.units) pe_star pe_star pe_star hm) (chain_go (o := o) (o' := o') ha hb hc kn s (fun _ _ h => h) w)
theorem sT_chain {o o' : CmpOp} {a b c : Expr} {pos : Pos} {fa fb fc : Ev} {op op' : Op2} (ho : OpS (compareOp o) op) (ho' : OpS (compareOp o') op') (ha : SndE Γ N sc a fa) (hb : SndE Γ N sc b fb) (hc : SndE Γ N sc c fc)
    (hm : lastMarks [o, o'] [b, c] = false := by with_unfolding_all rfl) : SndT Γ N sc (.Compare a [o, o'] [b, c] pos) (cTst (cChain op op' fa fb fc)) := by
  intro X W kn G H σ ρ Q s w
  refine tT_of (pt_chain (ho.opR kn.calm kn.units) (ho'.opR kn.calm kn.units) pe_star pe_star pe_star hm) ?_
  unfold cTst at w
  rw [WP_bnd] at w
  refine chain_go (o := o) (o' := o') ha hb hc kn s (fun v ρ' hv u G' H' pe => ?_) w
  unfold asB at hv
  split at hv
  · rename_i c
    cases (show Dt X.K G' u (.bool c) from pe.rv)
    exact ⟨c, rfl, hv G' H' pe.x⟩
  · exact hv.elim
/-! ### if -/
def sIf (c : EvB) (f g : Ex) : Ex := fun ρ => bnd (c ρ) fun b ρ1 => if b = true then f ρ1 else g ρ1
theorem sS_if {c : Expr} {a b : List Stmt} {pos : Pos} {fc : EvB} {f g : Ex} (hc : SndT Γ N sc c fc) (ha : SndB Γ N np sc a f) (hb : SndB Γ N np sc b g) : SndS Γ N np sc (.If c a b pos) (sIf fc f g) := by
  intro X W kn G H σ ρ D s hl w
  refine tS_of (ps_if pt_star pss_star pss_star) ?_
  refine (hc.goS kn.toKn s.postS w).mono fun c H1 ⟨G1, ρ1, p1, w1⟩ => ?_
  have go : ∀ {st : List Stmt} {h : Ex}, SndB Γ N np sc st h → WP (h ρ1) (SQ X.K np σ G H ρ D) (ExS Γ X.K W np σ G H ρ) → tSs X st D σ H1 := fun {st h} he w2 =>
    he X W kn G1 H1 σ ρ1 D p1.st hl (w2.mono (fun _ _ q => SQ.step p1 q) fun _ _ q => ExS.step p1 q)
  cases c with
  | true => rw [if_pos rfl] at w1 ⊢; exact go ha w1
  | false => rw [if_neg Bool.false_ne_true] at w1 ⊢; exact go hb w1
end
end PP

end
section
set_option maxHeartbeats 1000000
set_option Elab.async false
set_option linter.all false
set_option maxRecDepth 100000
/-! PPf: the pure layer: targets, iterators, for, while, parallel stores. -/
namespace PP
open PySem PySem.Spec PyProof.Rows L2

/-! ### targets -/
abbrev Tgt := PyData → Env → Option Env
def tG (X : Cx) (tg : Expr) : TG := fun v σ H Q => ∀ (pins : List (Addr × Obj)) (s : Shared) (u : Value), Inv X pins σ H s → RelV v u → wpAny (model X.prog X.w) X.A (assign tg X.env u) (fun _ s' => ∃ σ' H', Inv X pins σ' H' s' ∧ Q σ' H') X.xe s
theorem pg_star {X : Cx} {tg : Expr} : PG X tg (tG X tg) := ⟨fun pins s σ H v u Q I r h => h pins s u I r⟩
theorem tG_of {X : Cx} {tg : Expr} {t : TG} (p : PG X tg t) {v : V} {σ : L2.St} {H : Hp} {Q : L2.St → Hp → Prop} (h : t v σ H Q) : tG X tg v σ H Q := fun pins s u I r => p.run pins s σ H v u Q I r h
structure KnG (X : Cx) (N : List Str) (lo : Str → Bool) : Prop where
  calm : X.calm = true
  nn : X.N = N
  nd : N.Nodup
  lo : ∀ x, lo x = true → Loc X.env.scope x ∧ (X.fn x = true ∨ X.env.scope.names.lookup x = some .local)
def SndG (N : List Str) (np : Nat) (lo : Str → Bool) (is : List Nat) (tg : Expr) (t : Tgt) : Prop :=
  ∀ (X : Cx), KnG X N lo → ∀ (G0 H0 G H : Hp) (σ0 σ : L2.St) (ρ0 ρ ρ' : Env) (u : V) (d : PyData) (Q : L2.St → Hp → Prop), PostS X.K np σ0 G0 H0 ρ0 σ G H ρ → σ.length = N.length → Dt X.K G u d → t d ρ = some ρ' →
    (∀ σ', σ'.length = N.length → PostS X.K np σ0 G0 H0 ρ0 σ' G H ρ' → (∀ j : Nat, j ∉ is → σ'[j]? = σ[j]? ∧ ρ'[j]? = ρ[j]?) → Q σ' H) → tG X tg u σ H Q
def tName (np i : Nat) : Tgt := fun d ρ => setV np i (.dat d) ρ
def tPair (np i j : Nat) : Tgt := fun d ρ => match d with
  | .tuple [a, b] => match setV np i (.dat a) ρ with
    | some ρ1 => setV np j (.dat b) ρ1
    | none => none
  | _ => none
theorem setV_out {np i : Nat} {v : Val} {ρ ρ' : Env} (e : setV np i v ρ = some ρ') {j : Nat} (h : j ≠ i) : ρ'[j]? = ρ[j]? := by
  unfold setV at e
  split at e
  · cases e; exact List.getElem?_set_ne (Ne.symm h)
  · cases e
section
variable {Γ : Gam} {N : List Str} {np : Nat} {sc : Scope} {lo : Str → Bool} {is : List Nat}
theorem KnS.g {X : Cx} {W : WX} (kn : KnS Γ X sc N W) : KnG X N (locB sc) := ⟨kn.calm, kn.nn, kn.nd, fun x h => ⟨kn.sc ▸ loc_of h, .inl (kn.cf x)⟩⟩
theorem sG_name {i : Nat} {x : Str} {pos : Pos} (hN : N[i]? = some x) (hx : lo x = true) : SndG N np lo [i] (.Name x pos) (tName np i) := by
  intro X kn G0 H0 G H σ0 σ ρ0 ρ ρ' u d Q p hl dt e q
  refine tG_of (pg_name (i := i) (kn.nn ▸ kn.nd) (kn.nn ▸ hN) (kn.lo x hx).1 (kn.lo x hx).2) ?_
  exact q _ (by rw [List.length_set]; exact hl) (S8.set p (v := .dat d) trivial (show RelW X.K G H σ u (.dat d) from dt) (fun b f => f.elim) (by rw [hl]; exact lt_of_get hN) e) fun j hj => ⟨List.getElem?_set_ne (fun z => hj (by rw [z]; exact List.mem_singleton_self _)), setV_out e fun z => hj (by rw [z]; exact List.mem_singleton_self _)⟩
theorem sG_pair {i j : Nat} {x y : Str} {p1 p2 pos : Pos} {k : Nat} (hN : N[i]? = some x) (hx : lo x = true) (hN2 : N[j]? = some y) (hy : lo y = true) : SndG N np lo [i, j] (.Tuple [.Name x p1, .Name y p2] k pos) (tPair np i j) := by
  intro X kn G0 H0 G H σ0 σ ρ0 ρ ρ' u d Q p hl dt e q
  unfold tPair at e
  split at e
  · rename_i a b
    split at e
    · rename_i ρ1 e1
      cases dt with
      | tup hs hall =>
        rename_i ad xs
        cases hall with
        | cons ha hall =>
          rename_i u1 us
          cases hall with
          | cons hb hall =>
            rename_i u2 us'
            cases hall
            refine tG_of (pg_tup (n := 2) kn.calm (pgs_cons (pg_name (i := i) (kn.nn ▸ kn.nd) (kn.nn ▸ hN) (kn.lo x hx).1 (kn.lo x hx).2) (pgs_cons (pg_name (i := j) (kn.nn ▸ kn.nd) (kn.nn ▸ hN2) (kn.lo y hy).1 (kn.lo y hy).2) pgs_nil))) ?_
            have q1 := S8.set p (v := .dat a) trivial (show RelW X.K G H σ u1 (.dat a) from ha) (fun b f => f.elim) (by rw [hl]; exact lt_of_get hN) e1
            have hl1 : (σ.set i (some u1)).length = N.length := by rw [List.length_set]; exact hl
            have q2 := S8.set q1 (v := .dat b) trivial (show RelW X.K G H _ u2 (.dat b) from hb) (fun b f => f.elim) (by rw [hl1]; exact lt_of_get hN2) e
            exact ⟨ad, [u1, u2], rfl, .inl (.inl (p.st.gh _ _ hs)), rfl, u1, [u2], rfl, u2, [], rfl, rfl, q _ (by rw [List.length_set]; exact hl1) q2 fun m hm => by
              have h1 : m ≠ i := fun z => hm (by rw [z]; exact List.mem_cons_self)
              have h2 : m ≠ j := fun z => hm (by rw [z]; exact List.mem_cons_of_mem _ (List.mem_singleton_self _))
              exact ⟨by rw [List.getElem?_set_ne (Ne.symm h2), List.getElem?_set_ne (Ne.symm h1)], (setV_out e h2).trans (setV_out e1 h1)⟩⟩
    · cases e
  · cases e

/-! ### iterators -/
abbrev EvI := Env → Option (Rs (List PyData))
def iSt (X : Cx) (tg iter : Expr) : TI := fun σ H R => ∀ (pins : List (Addr × Obj)) (s : Shared), Inv X pins σ H s → wpAny (model X.prog X.w) X.A (eval iter X.env) (fun v s1 => wpAny (model X.prog X.w) X.A (pyIter v) (PIE X pins σ tg R) X.xe s1) X.xe s
theorem pi_star {X : Cx} {tg iter : Expr} : PI X tg iter (iSt X tg iter) := ⟨fun pins s _ _ _ I h => h pins s I⟩
theorem iSt_of {X : Cx} {tg iter : Expr} {t : TI} (p : PI X tg iter t) {σ : L2.St} {H : Hp} {R : It → Hp → Prop} (h : t σ H R) : iSt X tg iter σ H R := fun pins s I => p.run pins s σ H R I h
/-- what an iterator hands out: the data ds, one after another, whatever the heap becomes -/
def Gives (K : PySem.W.Frag) (G : Hp) (J : It) (ds : List PyData) : Prop := ∀ (Hc : Hp), (∀ a o, G a = some o → Hc a = some o) → ∀ i : Nat, (∀ d, ds[i]? = some d → J.go i Hc ∧ ∀ x H'', J.yld i Hc x H'' → H'' = Hc ∧ Dt K G x d) ∧ (ds.length ≤ i → J.stop i Hc)
def SndI (Γ : Gam) (N : List Str) (sc : Scope) (tg iter : Expr) (f : EvI) : Prop :=
  ∀ (X : Cx) (W : WX), Kn Γ X sc N W → ∀ (G H : Hp) (σ : L2.St) (ρ : Env) (R : It → Hp → Prop), S8 X.K G H σ ρ →
    WP (f ρ) (fun ds ρ' => ∀ J G' H', PostX X.K σ G H ρ G' H' ρ' → Gives X.K G' J ds → R J H') (ExQ Γ X.K W σ G H ρ) → iSt X tg iter σ H R
def chars (x : Str) : List PyData := x.cps.toList.map fun c => .str ⟨#[c]⟩
def items : Val → Env → Option (Rs (List PyData)) := fun v ρ => match v with
  | .dat (.list ds) => some (.ok ds ρ)
  | .dat (.tuple ds) => some (.ok ds ρ)
  | .dat (.str x) => some (.ok (chars x) ρ)
  | _ => none
def iSeq (f : Ev) : EvI := fun ρ => bnd (f ρ) items
theorem gives_list {K : PySem.W.Frag} {G : Hp} {a : Addr} {xs : List V} {ds : List PyData} (h : G a = some (.lst xs)) (r : DtAll K G xs ds) : Gives K G (Itl K a) ds := fun Hc hg i => by
  have hq : SqL K Hc a xs := .inl (.inl (hg _ _ h))
  refine ⟨fun d hd => ?_, fun hi => ⟨xs, hq, by rw [r.len]; exact hi⟩⟩
  obtain ⟨u, hu, du⟩ := r.get hd
  refine ⟨⟨xs, u, hq, hu⟩, fun x H'' ⟨e, y⟩ => ⟨e, ?_⟩⟩
  have := y xs hq
  rw [hu] at this
  cases this
  exact du
theorem gives_tup {K : PySem.W.Frag} {G : Hp} {a : Addr} {xs : List V} {ds : List PyData} (h : G a = some (.tup xs)) (r : DtAll K G xs ds) : Gives K G (Itt K a) ds := fun Hc hg i => by
  have hq : SqT K Hc a xs := .inl (.inl (hg _ _ h))
  refine ⟨fun d hd => ?_, fun hi => ⟨xs, hq, by rw [r.len]; exact hi⟩⟩
  obtain ⟨u, hu, du⟩ := r.get hd
  refine ⟨⟨xs, u, hq, hu⟩, fun x H'' ⟨e, y⟩ => ⟨e, ?_⟩⟩
  have := y xs hq
  rw [hu] at this
  cases this
  exact du
theorem sI_seq {tg iter : Expr} {f : Ev} (h : SndE Γ N sc iter f) : SndI Γ N sc tg iter (iSeq f) := by
  intro X W kn G H σ ρ R s w
  have w0 := w
  unfold iSeq bnd at w0
  split at w0
  · exact w0.elim
  · rename_i v ρ1 hf
    -- by what the value is
    have go2 : tE X iter σ H (fun u H1 => ∃ G1, PostE X.K σ G H ρ G1 H1 ρ1 u v ∧ WP (items v ρ1) (fun ds ρ' => ∀ J G' H', PostX X.K σ G H ρ G' H' ρ' → Gives X.K G' J ds → R J H') (ExQ Γ X.K W σ G H ρ)) := by
      refine h X W kn G H σ ρ _ s ?_
      rw [hf]
      exact fun u G1 H1 pe => ⟨G1, pe, w0⟩
    unfold items at w0 go2
    split at w0
    · rename_i ds
      refine iSt_of (pi_list pe_star) (go2.mono fun u H1 ⟨G1, pe, w1⟩ => ?_)
      cases (show Dt X.K G1 u (.list ds) from pe.rv) with
      | lst hs hall => exact ⟨_, rfl, ⟨_, .inl (.inl (pe.st.gh _ _ hs))⟩, w1 _ G1 H1 pe.x (gives_list hs hall)⟩
    · rename_i ds
      refine iSt_of (pi_tup pe_star) (go2.mono fun u H1 ⟨G1, pe, w1⟩ => ?_)
      cases (show Dt X.K G1 u (.tuple ds) from pe.rv) with
      | tup hs hall => exact ⟨_, rfl, ⟨_, .inl (.inl (pe.st.gh _ _ hs))⟩, w1 _ G1 H1 pe.x (gives_tup hs hall)⟩
    · rename_i x
      refine iSt_of (pi_str pe_star) (go2.mono fun u H1 ⟨G1, pe, w1⟩ => ?_)
      have hrv : Dt X.K G1 u (.str x) := pe.rv
      obtain ⟨rfl, hok⟩ : u = .str x ∧ PyData.strOk x = true := by cases hrv; exact ⟨rfl, by assumption⟩
      refine ⟨x, rfl, w1 _ G1 H1 pe.x fun Hc hg i => ⟨fun d hd => ?_, fun hi => ?_⟩⟩
      · unfold chars at hd
        rw [List.getElem?_map] at hd
        cases hc : x.cps.toList[i]? with
        | none => rw [hc] at hd; cases hd
        | some c =>
          rw [hc] at hd
          cases hd
          have hc' : x.cps[i]? = some c := by simpa using hc
          refine ⟨(Array.getElem?_eq_some_iff.mp hc').1, fun z H'' ⟨e, c', h1, h2⟩ => ⟨e, ?_⟩⟩
          rw [hc'] at h1
          cases h1
          subst h2
          exact .str _ (by
            have hall := Array.all_eq_true.mp hok i (Array.getElem?_eq_some_iff.mp hc').1
            rw [(Array.getElem?_eq_some_iff.mp hc').2] at hall
            simpa [PyData.strOk] using hall)
      · unfold chars at hi
        rw [List.length_map, Array.length_toList] at hi
        exact hi
    · exact w0.elim
  · -- an exception
    rename_i x ρ' hf
    refine iSt_of (pi_list pe_star) ?_
    refine h X W kn G H σ ρ _ s ?_
    rw [hf]
    exact w0
/-- range(n), range(a, b) -/
def rngI (lo : Int) (n : Nat) : List PyData := (List.range n).map fun i => .int (lo + (i : Nat))
def inR (i : Int) : Bool := decide (-(2 ^ 62) ≤ i ∧ i < 2 ^ 62)
def rngOf : List Val → Env → Option (Rs (List PyData))
  | [.dat (.int j)], ρ => if inR j = true then some (.ok (rngI 0 j.toNat) ρ) else none
  | [.dat (.int i), .dat (.int j)], ρ => if inR i = true ∧ inR j = true then some (.ok (rngI i (j - i).toNat) ρ) else none
  | _, _ => none
def iRng (g : EvL) : EvI := fun ρ => bnd (g ρ) rngOf
theorem gives_rng {K : PySem.W.Frag} {G : Hp} {lo : Int} {n : Nat} : Gives K G (Itr lo n) (rngI lo n) := fun Hc hg i => by
  refine ⟨fun d hd => ?_, fun hi => ?_⟩
  · unfold rngI at hd
    rw [List.getElem?_map] at hd
    cases hc : (List.range n)[i]? with
    | none => rw [hc] at hd; cases hd
    | some c =>
      rw [hc] at hd
      cases hd
      obtain ⟨h1, h2⟩ := List.getElem?_eq_some_iff.mp hc
      rw [List.getElem_range] at h2
      subst h2
      rw [List.length_range] at h1
      exact ⟨h1, fun x H'' ⟨e, y⟩ => ⟨e, by rw [y]; exact .int _⟩⟩
  · unfold rngI at hi
    rw [List.length_map, List.length_range] at hi
    exact hi
theorem heldI {K : PySem.W.Frag} {σ : L2.St} {G H : Hp} {ρ : Env} {us : List V} {i : Int} (h : Held K σ G H ρ us [.dat (.int i)]) : us = [.int i] := by
  cases us with
  | nil => exact h.elim
  | cons u us =>
    cases us with
    | nil => cases (show Dt K G u (.int i) from h.1); rfl
    | cons u2 us => exact h.2.2.elim
theorem heldI2 {K : PySem.W.Frag} {σ : L2.St} {G H : Hp} {ρ : Env} {us : List V} {i j : Int} (h : Held K σ G H ρ us [.dat (.int i), .dat (.int j)]) : us = [.int i, .int j] := by
  cases us with
  | nil => exact h.elim
  | cons u us =>
    cases (show Dt K G u (.int i) from h.1)
    rw [heldI h.2.2]
theorem sI_rng1 {tg a : Expr} {p pos : Pos} {g : EvL} (hb : "range" ∈ Γ.bl) (hg : glB sc ("range" : Str) = true) (ha : SndA Γ N sc [a] g) (hs : ∀ env, starEach [a] env = [(false, eval a env)] := by intro _; rfl) : SndI Γ N sc tg (.Call (.Name "range" p) [a] [] pos) (iRng g) := by
  intro X W kn G H σ ρ R s w
  refine iSt_of (pi_range1 (gl_of kn.sc hg) (kn.bl _ hb) (pa_star' (es := [a])) (hs X.env)) ?_
  refine ha X W kn G H σ ρ _ s ?_
  unfold iRng at w
  rw [WP_bnd] at w
  refine w.mono (fun vs ρ1 w1 us G1 H1 p1 hd hl => ?_) fun _ _ h => h
  unfold rngOf at w1
  split at w1
  · rename_i j
    split at w1
    · rename_i hj
      rw [heldI hd]
      have hj' := of_decide_eq_true hj
      exact ⟨j, rfl, hj'.1, hj'.2, w1 _ G1 H1 p1 gives_rng⟩
    · exact w1.elim
  · rename_i i j
    split at w1
    · rw [heldI2 hd] at hl; simp at hl
    · exact w1.elim
  · exact w1.elim
theorem sI_rng2 {tg a b : Expr} {p pos : Pos} {g : EvL} (hb : "range" ∈ Γ.bl) (hg : glB sc ("range" : Str) = true) (ha : SndA Γ N sc [a, b] g) (hs : ∀ env, starEach [a, b] env = [(false, eval a env), (false, eval b env)] := by intro _; rfl) (hs2 : ∀ env, starEach [b] env = [(false, eval b env)] := by intro _; rfl) :
    SndI Γ N sc tg (.Call (.Name "range" p) [a, b] [] pos) (iRng g) := by
  intro X W kn G H σ ρ R s w
  refine iSt_of (pi_range2 (gl_of kn.sc hg) (kn.bl _ hb) (pa_star' (es := [a, b])) (hs X.env) (hs2 X.env)) ?_
  refine ha X W kn G H σ ρ _ s ?_
  unfold iRng at w
  rw [WP_bnd] at w
  refine w.mono (fun vs ρ1 w1 us G1 H1 p1 hd hl => ?_) fun _ _ h => h
  unfold rngOf at w1
  split at w1
  · rename_i j
    split at w1
    · rw [heldI hd] at hl; simp at hl
    · exact w1.elim
  · rename_i i j
    split at w1
    · rename_i hj
      rw [heldI2 hd]
      have h1 := of_decide_eq_true hj.1
      have h2 := of_decide_eq_true hj.2
      exact ⟨i, j, rfl, ⟨h1.1, h1.2, h2.1, h2.2⟩, w1 _ G1 H1 p1 gives_rng⟩
    · exact w1.elim
  · exact w1.elim

/-! ### for -/
def forL (t : Tgt) (body : Ex) : List PyData → Ex
  | [], ρ => some (.ok .nx ρ)
  | d :: ds, ρ => match t d ρ with
    | none => none
    | some ρ1 => bnd (body ρ1) fun fl ρ2 => match fl with
      | .nx => forL t body ds ρ2
      | .ct => forL t body ds ρ2
      | .bk => some (.ok .nx ρ2)
      | .rt v => some (.ok (.rt v) ρ2)
def sFor (it : EvI) (t : Tgt) (body : Ex) : Ex := fun ρ => bnd (it ρ) fun ds ρ1 => forL t body ds ρ1
theorem sS_for {tg iter : Expr} {body : List Stmt} {pos : Pos} {it : EvI} {t : Tgt} {fb : Ex} (hi : SndI Γ N sc tg iter it) (hg : SndG N np (locB sc) is tg t) (hb : SndB Γ N np sc body fb) (hs : ∀ env x, foldedSetIterable iter env x = pure x := by intro _ _; rfl) :
    SndS Γ N np sc (.For tg iter body [] pos) (sFor it t fb) := by
  intro X W kn G H σ ρ D s hl w
  refine tS_of (ps_for kn.po kn.calm pi_star pg_star pss_star (hs X.env)) ?_
  refine hi X W kn.toKn G H σ ρ _ s ?_
  unfold sFor at w
  rw [WP_bnd] at w
  refine w.mono (fun ds ρ1 w1 J G1 H1 p1 gv => ?_) fun x ρ' hx => ExS.exQ s.postS hx
  refine ⟨fun i m σ' H' => σ'.length = N.length ∧ m = ds.length - i ∧ i ≤ ds.length ∧ ∃ G' ρ', PostS X.K np σ G H ρ σ' G' H' ρ' ∧ (∀ a o, G1 a = some o → G' a = some o) ∧ WP (forL t fb (ds.drop i) ρ') (SQ X.K np σ G H ρ D) (ExS Γ X.K W np σ G H ρ),
    ⟨ds.length, hl, by omega, Nat.zero_le _, G1, ρ1, p1.toS, fun _ _ h => h, w1⟩, ?_⟩
  rintro i m σ2 H2 ⟨hl2, rfl, hi2, G2, ρ2, p2, g2, w2⟩
  obtain ⟨gv1, gv2⟩ := gv H2 (fun a o h => p2.st.gh a o (g2 a o h)) i
  by_cases hlt : i < ds.length
  · have hd : ds[i]? = some ds[i] := List.getElem?_eq_getElem hlt
    obtain ⟨go, yl⟩ := gv1 _ hd
    rw [List.drop_eq_getElem_cons hlt] at w2
    unfold forL at w2
    split at w2
    · exact w2.elim
    · rename_i ρ3 e3
      refine .inr ⟨go, fun σ' H' => σ'.length = N.length ∧ ∃ G' ρ', PostS X.K np σ G H ρ σ' G' H' ρ' ∧ (∀ a o, G1 a = some o → G' a = some o) ∧ WP (forL t fb (ds.drop (i + 1)) ρ') (SQ X.K np σ G H ρ D) (ExS Γ X.K W np σ G H ρ), fun σ' H' ⟨l, G', ρ', z⟩ => ⟨ds.length - (i + 1), by omega, l, rfl, hlt, G', ρ', z⟩, fun x H'' hy => ?_⟩
      obtain ⟨e, dx⟩ := yl x H'' hy
      subst e
      refine hg X kn.g G H G2 H'' σ σ2 ρ ρ2 ρ3 x _ _ p2 hl2 (dx.mono g2) e3 fun σ3 hl3 p3 _ => ?_
      rw [WP_bnd] at w2
      refine hb X W kn G2 H'' σ3 ρ3 _ p3.st hl3 ?_
      refine w2.mono (fun fl ρ4 hw => ?_) fun x ρ' hx => hx.step p3
      have again : WP (forL t fb (ds.drop (i + 1)) ρ4) (SQ X.K np σ G H ρ D) (ExS Γ X.K W np σ G H ρ) → ∀ σ' G' H', PostS X.K np σ3 G2 H'' ρ3 σ' G' H' ρ4 → σ'.length = N.length ∧ ∃ G' ρ', PostS X.K np σ G H ρ σ' G' H' ρ' ∧ (∀ a o, G1 a = some o → G' a = some o) ∧ WP (forL t fb (ds.drop (i + 1)) ρ') (SQ X.K np σ G H ρ D) (ExS Γ X.K W np σ G H ρ) := fun hw σ' G' H' q => by
        exact ⟨q.ln.trans hl3, G', ρ4, p3.trans q, fun a o h => q.ext.gg a o (g2 a o h), hw⟩
      cases fl with
      | nx => exact again hw
      | ct => exact again hw
      | bk => exact fun σ' G' H' q => hw σ' G' H' (p3.trans q)
      | rt v => exact SQ.step (D := { D with nx := _, ct := _, bk := D.nx }) p3 hw
  · have e0 : ds.drop i = [] := List.drop_eq_nil_of_le (by omega)
    rw [e0] at w2
    exact .inl ⟨gv2 (by omega), w2 σ2 G2 H2 p2⟩
end
end PP

end
section
set_option maxHeartbeats 1000000
set_option Elab.async false
set_option linter.all false
set_option maxRecDepth 100000
/-! PPg: the pure layer: while, parallel stores, displays, list comprehensions. -/
namespace PP
open PySem PySem.Spec PyProof.Rows L2

section
variable {Γ : Gam} {N : List Str} {np : Nat} {sc : Scope} {lo : Str → Bool}
/-! ### while -/
def whL (c : EvB) (body : Ex) : Nat → Ex
  | 0, _ => none
  | n + 1, ρ => bnd (c ρ) fun b ρ1 => if b = true then bnd (body ρ1) fun fl ρ2 => match fl with
      | .nx => whL c body n ρ2
      | .ct => whL c body n ρ2
      | .bk => some (.ok .nx ρ2)
      | .rt v => some (.ok (.rt v) ρ2)
    else some (.ok .nx ρ1)
def sWhile (fuel : Nat) (c : EvB) (body : Ex) : Ex := whL c body fuel
theorem sS_while {c : Expr} {body : List Stmt} {pos : Pos} {fuel : Nat} {fc : EvB} {fb : Ex} (hc : SndT Γ N sc c fc) (hb : SndB Γ N np sc body fb) : SndS Γ N np sc (.While c body [] pos) (sWhile fuel fc fb) := by
  intro X W kn G H σ ρ D s hl w
  refine tS_of (ps_while kn.po pt_star pss_star) ?_
  refine ⟨fun m σ' H' => σ'.length = N.length ∧ ∃ G' ρ', PostS X.K np σ G H ρ σ' G' H' ρ' ∧ WP (whL fc fb m ρ') (SQ X.K np σ G H ρ D) (ExS Γ X.K W np σ G H ρ), ⟨fuel, hl, G, ρ, s.postS, w⟩, ?_⟩
  rintro m σ1 H1 ⟨hl1, G1, ρ1, p1, w1⟩
  cases m with
  | zero => exact w1.elim
  | succ n =>
    unfold whL at w1
    refine (hc.goS kn.toKn p1 w1).mono fun b H2 ⟨G2, ρ2, p2, w2⟩ => ?_
    cases b with
    | false =>
      rw [if_neg Bool.false_ne_true] at w2 ⊢
      exact w2 σ1 G2 H2 p2
    | true =>
      rw [if_pos rfl] at w2 ⊢
      refine ⟨fun σ' H' => σ'.length = N.length ∧ ∃ G' ρ', PostS X.K np σ G H ρ σ' G' H' ρ' ∧ WP (whL fc fb n ρ') (SQ X.K np σ G H ρ D) (ExS Γ X.K W np σ G H ρ), fun σ' H' z => ⟨n, Nat.lt_succ_self n, z⟩, ?_⟩
      rw [WP_bnd] at w2
      refine hb X W kn G2 H2 σ1 ρ2 _ p2.st hl1 ?_
      refine w2.mono (fun fl ρ3 hw => ?_) fun x ρ' hx => hx.step p2
      have again : WP (whL fc fb n ρ3) (SQ X.K np σ G H ρ D) (ExS Γ X.K W np σ G H ρ) → ∀ σ' G' H', PostS X.K np σ1 G2 H2 ρ2 σ' G' H' ρ3 → σ'.length = N.length ∧ ∃ G' ρ', PostS X.K np σ G H ρ σ' G' H' ρ' ∧ WP (whL fc fb n ρ') (SQ X.K np σ G H ρ D) (ExS Γ X.K W np σ G H ρ) := fun hw σ' G' H' q =>
        ⟨q.ln.trans hl1, G', ρ3, p2.trans q, hw⟩
      cases fl with
      | nx => exact again hw
      | ct => exact again hw
      | bk => exact fun σ' G' H' q => hw σ' G' H' (p2.trans q)
      | rt v => exact SQ.step (D := { D with nx := _, ct := _, bk := D.nx }) p2 hw

/-! ### a, b = x, y -/
theorem S8.garb {K : PySem.W.Frag} {G H : Hp} {σ : L2.St} {ρ : Env} {p : Addr} {o : HO} (s : S8 K G H σ ρ) (np : H p = none) (no : ∀ xs, o ≠ .tup xs) : PostX K σ G H ρ G (upd H p o) ρ := by
  have gp : G p = none := by
    cases e : G p with
    | none => rfl
    | some z => rw [s.gh p z e] at np; cases np
  have x : Ext (Own H σ ρ) G H G (upd H p o) :=
    ⟨fun a z h => h, fun a h _ => rfl, fun a z h _ => by rw [upd_ne (ne_of_none h np)]; exact h, fun a h => by
      have ne : a ≠ p := fun e => h (by rw [e]; exact np)
      rw [upd_ne ne]; exact h⟩
  have own : ∀ (i : Nat) (u : V) (v : Val), σ[i]? = some (some u) → ρ[i]? = some (some v) → ∀ b, foot (upd H p o) u v b ↔ foot H u v b := fun i u v h1 h2 b => by
    cases v with
    | tp pos cells =>
      obtain ⟨_, u', h1', r⟩ := s.rel i _ h2
      rw [h1] at h1'; cases h1'
      obtain ⟨T, C, rfl, ne, g, g2, h, h2'⟩ := r
      have hT : T ≠ p := ne_of_none h np
      constructor
      · rintro (e | ⟨T', q, e, z⟩)
        · exact .inl e
        · cases e; rw [upd_ne hT] at z; exact .inr ⟨T, q, rfl, z⟩
      · rintro (e | ⟨T', q, e, z⟩)
        · exact .inl e
        · cases e; exact .inr ⟨T, q, rfl, by rw [upd_ne hT]; exact z⟩
    | _ => exact Iff.rfl
  refine ⟨⟨fun a z h => ?_, fun a xs h => ?_, s.len, fun i v h => ?_, fun i j u v u' v' b ne a1 a2 a3 a4 f f' => ?_⟩, x, fun b ⟨i, u, v, h1, h2, f⟩ => ⟨i, u, v, h1, h2, (own i u v h1 h2 b).mp f⟩, fun j v' h hm => ⟨rfl, v', h, hm, fun u b h1 f => (own j u v' h1 h b).mp f⟩⟩
  · rw [upd_ne (ne_of_none h gp)]; exact s.gh a z h
  · by_cases e : a = p
    · subst e; rw [upd_same] at h; exact absurd (Option.some.inj h) (no xs)
    · rw [upd_ne e] at h; exact s.ht a xs h
  · obtain ⟨nb, u, h1, r⟩ := s.rel i v h
    refine ⟨nb, u, h1, ?_⟩
    cases v with
    | dat d => exact r
    | bor j => exact r
    | scr ns => exact r
    | ml ds =>
      obtain ⟨a, vs, rfl, g, hh, q⟩ := r
      exact ⟨a, vs, rfl, g, by rw [upd_ne (ne_of_none hh np)]; exact hh, q⟩
    | mk ds =>
      obtain ⟨a, vs, rfl, g, hh, q⟩ := r
      exact ⟨a, vs, rfl, g, by rw [upd_ne (ne_of_none hh np)]; exact hh, q⟩
    | mt ds =>
      obtain ⟨a, vs, rfl, g, hh, q⟩ := r
      exact ⟨a, vs, rfl, g, by rw [upd_ne (ne_of_none hh np)]; exact hh, q⟩
    | tp pos cells =>
      obtain ⟨T, C, rfl, ne, g, g2, hh, h2⟩ := r
      exact ⟨T, C, rfl, ne, g, g2, by rw [upd_ne (ne_of_none hh np)]; exact hh, by rw [upd_ne (ne_of_none h2 np)]; exact h2⟩
  · exact s.sep i j u v u' v' b ne a1 a2 a3 a4 ((own i u v a1 a2 b).mp f) ((own j u' v' a3 a4 b).mp f')
def par2 (np i j : Nat) (v w : Val) (ρ : Env) : Option (Rs Fl) := match setV np i v ρ with
  | some ρ1 => stV np j w ρ1
  | none => none
def sPar (np i j : Nat) (f g : Ev) : Ex := fun ρ => bnd (f ρ) fun v ρ1 => bnd (g ρ1) fun w ρ2 => par2 np i j v w ρ2
/-- both stored -/
theorem par_go {X : Cx} {W : WX} {G H G1 H1 G2 H2 : Hp} {σ : L2.St} {ρ ρ1 ρ2 : Env} {x y : V} {v w : Val} {i j : Nat} {D : Ends} (hl : σ.length = N.length) (hi : i < N.length) (hj : j < N.length) (p1 : PostS X.K np σ G H ρ σ G1 H1 ρ1) (pe1 : PostE X.K σ G H ρ G1 H1 ρ1 x v) (pe2 : PostE X.K σ G1 H1 ρ1 G2 H2 ρ2 y w)
    (h : WP (par2 np i j v w ρ2) (SQ X.K np σ G H ρ D) (ExS Γ X.K W np σ G H ρ)) : ∃ ρ', PostS X.K np σ G H ρ ((σ.set i (some x)).set j (some y)) G2 H2 ρ' ∧ D.nx ((σ.set i (some x)).set j (some y)) H2 := by
  unfold par2 at h
  split at h
  · rename_i ρ3 e3
    unfold stV at h
    split at h
    · rename_i ρ4 e4
      have k1 := pe1.keep pe2.x
      have p2 : PostS X.K np σ G H ρ σ G2 H2 ρ2 := p1.trans pe2.x.toS
      have q1 := S8.set p2 (setV_nb e3) k1.rv k1.fv (by rw [hl]; exact hi) e3
      have nbw := setV_nb e4
      -- the second value is apart from the first
      have fw : ∀ b, foot H2 y w b → ¬ Own H2 (σ.set i (some x)) ρ3 b ∧ (Own H σ ρ b ∨ H b = none) := fun b f => by
        obtain ⟨f1, f2⟩ := pe2.fv b f
        refine ⟨fun ⟨k, u, v', h1, h2, f3⟩ => ?_, ?_⟩
        · by_cases hk : k = i
          · subst hk
            have hkσ : k < σ.length := by rw [hl]; exact hi
            have hkρ : k < ρ2.length := by rw [p2.st.len]; exact hkσ
            rw [List.getElem?_set_self hkσ] at h1
            cases h1
            have e3' : ρ3 = ρ2.set k (some v) := by
              unfold setV at e3
              split at e3
              · exact (Option.some.inj e3).symm
              · cases e3
            rw [e3', List.getElem?_set_self hkρ] at h2
            cases h2
            have f4 : foot H1 x v b := (foot.keep pe2.ext pe1.rv (fun b f => (pe1.fv b f).1) b).mp f3
            rcases f2 with f2 | f2
            · exact (pe1.fv b f4).1 f2
            · exact foot.there pe1.rv f4 f2
          · have e3' : ρ3 = ρ2.set i (some v) := by
              unfold setV at e3
              split at e3
              · exact (Option.some.inj e3).symm
              · cases e3
            rw [List.getElem?_set_ne (Ne.symm hk)] at h1
            rw [e3', List.getElem?_set_ne (Ne.symm hk)] at h2
            exact f1 ⟨k, u, v', h1, h2, f3⟩
        · rcases f2 with f2 | f2
          · exact p1.mm b f2
          · refine .inr ?_
            cases e : H b with
            | none => rfl
            | some z => exact absurd f2 (p1.ext.th b (by rw [e]; simp))
      have q2 := S8.set q1 nbw (RelW.any nbw pe2.rv) fw (by rw [List.length_set, hl]; exact hj) e4
      exact ⟨ρ4, q2, h _ _ _ q2⟩
    · exact h.elim
  · exact h.elim
theorem sS_par {i j : Nat} {x y : Str} {a b : Expr} {px py pt pos pt2 : Pos} {kt k2 : Nat} {f g : Ev} (hN : N[i]? = some x) (hN2 : N[j]? = some y) (hij : i ≠ j) (hx : sc.names.lookup x = some .local) (hy : sc.names.lookup y = some .local) (ha : SndE Γ N sc a f) (hb : SndE Γ N sc b g)
    (hw : ∀ env, env.scope = sc → swappedStores [.Tuple [.Name x px, .Name y py] kt pt] (.Tuple [a, b] k2 pt2) env = pure (some [x, y])) (hs : ∀ env, swapsWithSole [.Tuple [.Name x px, .Name y py] kt pt] (.Tuple [a, b] k2 pt2) pos.line env = pure false := by intro _; rfl)
    (he : ∀ env, starEach [a, b] env = (false, eval a env) :: starEach [b] env := by intro _; rfl) (he2 : ∀ env, starEach [b] env = (false, eval b env) :: starEach [] env := by intro _; rfl) :
    SndS Γ N np sc (.Assign [.Tuple [.Name x px, .Name y py] kt pt] (.Tuple [a, b] k2 pt2) pos) (sPar np i j f g) := by
  intro X W kn G H σ ρ D s hl w
  refine tS_of (ps_par (i := i) (j := j) kn.calm (kn.nn ▸ kn.nd) (kn.nn ▸ hN) (kn.nn ▸ hN2) hij (kn.sc ▸ hx) (kn.sc ▸ hy) (pa_cons pe_star (pa_cons pe_star pa_nil (he2 X.env)) (he X.env)) (hw X.env kn.sc) (hs X.env)) ?_
  refine (ha.goS kn.toKn s.postS w).mono fun u H1 ⟨G1, ρ1, v, pe1, p1, w1⟩ => ?_
  refine (hb.goS kn.toKn p1 w1).mono fun u2 H2 ⟨G2, ρ2, v2, pe2, p2, w2⟩ => ?_
  obtain ⟨ρ', q, hn⟩ := par_go (Γ := Γ) (W := W) hl (lt_of_get hN) (lt_of_get hN2) p1 pe1 pe2 w2
  exact ⟨u, u2, rfl, hn⟩
/-- .. where a name is captured: the pair is made, then taken apart -/
theorem sS_parT {i j : Nat} {x y : Str} {a b : Expr} {px py pt pos pt2 : Pos} {kt k2 : Nat} {f g : Ev} (hN : N[i]? = some x) (hN2 : N[j]? = some y) (hx : locB sc x = true) (hy : locB sc y = true) (ha : SndE Γ N sc a f) (hb : SndE Γ N sc b g)
    (hw : ∀ env, env.scope = sc → swappedStores [.Tuple [.Name x px, .Name y py] kt pt] (.Tuple [a, b] k2 pt2) env = pure none) (hs : ∀ env, swapsWithSole [.Tuple [.Name x px, .Name y py] kt pt] (.Tuple [a, b] k2 pt2) pos.line env = pure false := by intro _; rfl)
    (he : ∀ env, starEach [a, b] env = (false, eval a env) :: starEach [b] env := by intro _; rfl) (he2 : ∀ env, starEach [b] env = (false, eval b env) :: starEach [] env := by intro _; rfl) :
    SndS Γ N np sc (.Assign [.Tuple [.Name x px, .Name y py] kt pt] (.Tuple [a, b] k2 pt2) pos) (sPar np i j f g) := by
  intro X W kn G H σ ρ D s hl w
  have kg := kn.g
  refine tS_of (ps_asg (pe_tup (pa_cons pe_star (pa_cons pe_star pa_nil (he2 X.env)) (he X.env)))
    (pg_tup (n := 2) kn.calm (pgs_cons (pg_name (i := i) (kn.nn ▸ kn.nd) (kn.nn ▸ hN) (kg.lo x hx).1 (kg.lo x hx).2) (pgs_cons (pg_name (i := j) (kn.nn ▸ kn.nd) (kn.nn ▸ hN2) (kg.lo y hy).1 (kg.lo y hy).2) pgs_nil))) (hs X.env) (hw X.env kn.sc)) ?_
  refine (ha.goS kn.toKn s.postS w).mono fun u H1 ⟨G1, ρ1, v, pe1, p1, w1⟩ => ?_
  refine (hb.goS kn.toKn p1 w1).mono fun u2 H2 ⟨G2, ρ2, v2, pe2, p2, w2⟩ => ?_
  refine ⟨by show 2 ≤ sizeLine; decide, fun p hp => ?_⟩
  have gb := pe2.st.frozen (o := .tup [u, u2]) hp
  obtain ⟨ρ', q, hn⟩ := par_go (Γ := Γ) (W := W) hl (lt_of_get hN) (lt_of_get hN2) p1 pe1 (pe2.keep gb) w2
  exact ⟨p, [u, u2], rfl, .inl (.inl upd_same), rfl, u, [u2], rfl, u2, [], rfl, rfl, hn⟩
end
end PP

end
section
set_option maxHeartbeats 1000000
set_option Elab.async false
set_option linter.all false
set_option maxRecDepth 100000
/-! PPh: the pure layer: displays, list comprehensions. -/
namespace PP
open PySem PySem.Spec PyProof.Rows L2

def okLen (n : Nat) : Bool := decide (n ≤ 1000000)
theorem okLen.line {n : Nat} (h : okLen n = true) : n ≤ sizeLine := by
  have := of_decide_eq_true h
  rw [sizeLine_eq]
  omega
section
variable {Γ : Gam} {N : List Str} {np : Nat} {sc : Scope} {lo : Str → Bool}
/-! ### displays -/
def dats : List Val → Option (List PyData)
  | [] => some []
  | .dat d :: vs => match dats vs with
    | some ds => some (d :: ds)
    | none => none
  | _ => none
theorem Held.dats {K : PySem.W.Frag} {σ : L2.St} {G H : Hp} {ρ : Env} : ∀ {us : List V} {vs : List Val} {ds : List PyData}, Held K σ G H ρ us vs → dats vs = some ds → DtAll K G us ds
  | [], [], ds, _, e => by
    have e' : ds = [] := (Option.some.inj e).symm
    subst e'
    exact .nil
  | u :: us, v :: vs, ds, h, e => by
    cases v with
    | dat d =>
      unfold PP.dats at e
      split at e
      · rename_i ds' e'
        cases e
        exact .cons h.1 (Held.dats h.2.2 e')
      · cases e
    | _ => cases e
  | [], _ :: _, _, h, _ => h.elim
  | _ :: _, [], _, h, _ => h.elim
def finTup (vs : List Val) (ρ : Env) : Option (Rs Val) := match dats vs with
  | some ds => if okLen ds.length = true then some (.ok (.dat (.tuple ds)) ρ) else none
  | none => none
def finLst (vs : List Val) (ρ : Env) : Option (Rs Val) := match dats vs with
  | some ds => if okLen ds.length = true then some (.ok (.dat (.list ds)) ρ) else none
  | none => none
def finNl (vs : List Val) (ρ : Env) : Option (Rs Val) := match dats vs with
  | some ds => if okLen ds.length = true then some (.ok (.ml ds) ρ) else none
  | none => none
def cTup (g : EvL) : Ev := fun ρ => bnd (g ρ) finTup
def cLst (g : EvL) : Ev := fun ρ => bnd (g ρ) finLst
def cNl (g : EvL) : Ev := fun ρ => bnd (g ρ) finNl
theorem sE_tup {es : List Expr} {k : Nat} {pos : Pos} {g : EvL} (h : SndA Γ N sc es g) : SndE Γ N sc (.Tuple es k pos) (cTup g) := by
  intro X W kn G H σ ρ Q s w
  refine tE_of (pe_tup (pa_star' (es := es))) ?_
  unfold cTup at w
  rw [WP_bnd] at w
  refine h X W kn G H σ ρ _ s (w.mono (fun vs ρ1 w1 us G1 H1 p1 hd hl => ?_) fun _ _ h => h)
  unfold finTup at w1
  split at w1
  · rename_i ds e
    split at w1
    · rename_i ho
      have dt := hd.dats e
      refine ⟨by rw [dt.len]; exact okLen.line ho, fun p np => ?_⟩
      have nw := New.push (G := G1) (o := .tup us) np
      exact w1 _ _ _ ((p1.trans (nw.post p1.st)).dat (.tup upd_same (dt.mono (nw.post p1.st).ext.gg)))
    · exact w1.elim
  · exact w1.elim
theorem sE_lst {es : List Expr} {pos : Pos} {g : EvL} (h : SndA Γ N sc es g) : SndE Γ N sc (.List es pos) (cLst g) := by
  intro X W kn G H σ ρ Q s w
  refine tE_of (pe_lst (pa_star' (es := es))) ?_
  unfold cLst at w
  rw [WP_bnd] at w
  refine h X W kn G H σ ρ _ s (w.mono (fun vs ρ1 w1 us G1 H1 p1 hd hl => ?_) fun _ _ h => h)
  unfold finLst at w1
  split at w1
  · rename_i ds e
    split at w1
    · rename_i ho
      have dt := hd.dats e
      refine ⟨by rw [dt.len]; exact okLen.line ho, fun p np => ?_⟩
      have nw := New.push (G := G1) (o := .lst us) np
      exact w1 _ _ _ ((p1.trans (nw.post p1.st)).dat (.lst upd_same (dt.mono (nw.post p1.st).ext.gg)))
    · exact w1.elim
  · exact w1.elim
/-- a new object that the step's value owns -/
theorem PostX.own {K : PySem.W.Frag} {σ : L2.St} {G H G1 H1 : Hp} {ρ ρ1 : Env} {p : Addr} {o : HO} {v : Val} (p1 : PostX K σ G H ρ G1 H1 ρ1) (np : H1 p = none) (no : ∀ xs, o ≠ .tup xs) (r : RelW K G1 (upd H1 p o) σ (.ref p) v) (hf : ∀ b, foot (upd H1 p o) (.ref p) v b → b = p) :
    PostE K σ G H ρ G1 (upd H1 p o) ρ1 (.ref p) v := by
  have g := p1.st.garb (o := o) np no
  have t := p1.trans g
  refine ⟨t.st, t.ext, t.mm, t.mt, r, fun b f => ?_⟩
  have e := hf b f
  subst e
  have nH : H b = none := by
    cases e : H b with
    | none => rfl
    | some z => exact absurd np (p1.ext.th b (by rw [e]; simp))
  exact ⟨fun ow => (Own.there p1.st (g.mm b ow)).1 np, .inr nH⟩
theorem free_of {K : PySem.W.Frag} {σ : L2.St} {G H : Hp} {ρ : Env} {p : Addr} (s : S8 K G H σ ρ) (np : H p = none) : G p = none := by
  cases e : G p with
  | none => rfl
  | some z => rw [s.gh p z e] at np; cases np
theorem sE_nl {es : List Expr} {pos : Pos} {g : EvL} (h : SndA Γ N sc es g) : SndE Γ N sc (.List es pos) (cNl g) := by
  intro X W kn G H σ ρ Q s w
  refine tE_of (pe_lst (pa_star' (es := es))) ?_
  unfold cNl at w
  rw [WP_bnd] at w
  refine h X W kn G H σ ρ _ s (w.mono (fun vs ρ1 w1 us G1 H1 p1 hd hl => ?_) fun _ _ h => h)
  unfold finNl at w1
  split at w1
  · rename_i ds e
    split at w1
    · rename_i ho
      have dt := hd.dats e
      refine ⟨by rw [dt.len]; exact okLen.line ho, fun p np => ?_⟩
      exact w1 _ _ _ (p1.own np (fun _ e => nomatch e) ⟨p, us, rfl, free_of p1.st np, upd_same, dt⟩ fun b f => (V.ref.inj f).symm)
    · exact w1.elim
  · exact w1.elim
def cNk : Ev := fun ρ => some (.ok (.mk []) ρ)
def cNt : Ev := fun ρ => some (.ok (.mt []) ρ)
theorem sE_nk {pos : Pos} : SndE Γ N sc (.Dict [] [] pos) cNk := by
  intro X W kn G H σ ρ Q s w
  refine tE_of pe_dnewK fun p np => ?_
  exact w _ _ _ (s.postX.own np (fun _ e => nomatch e) ⟨p, [], rfl, free_of s np, upd_same, .nil⟩ fun b f => (V.ref.inj f).symm)
theorem sE_nt {pos : Pos} : SndE Γ N sc (.Dict [] [] pos) cNt := by
  intro X W kn G H σ ρ Q s w
  refine tE_of pe_dnewT fun p np => ?_
  exact w _ _ _ (s.postX.own np (fun _ e => nomatch e) ⟨p, [], rfl, free_of s np, upd_same, .nil⟩ fun b f => (V.ref.inj f).symm)

/-! ### the block of a comprehension -/
def wipeE (ρ : Env) : List Nat → Env
  | [] => ρ
  | v :: vs => (wipeE ρ vs).set v none
def atE (ρ : Env) (v : Nat) : Option Val := match ρ[v]? with
  | some x => x
  | none => none
def rest (ρ ρ' : Env) : List Nat → Env
  | [] => ρ'
  | v :: vs => (rest ρ ρ' vs).set v (atE ρ v)
theorem wipeE_len (ρ : Env) : ∀ vs, (wipeE ρ vs).length = ρ.length
  | [] => rfl
  | v :: vs => by unfold wipeE; rw [List.length_set, wipeE_len ρ vs]
theorem rest_len (ρ ρ' : Env) : ∀ vs, (rest ρ ρ' vs).length = ρ'.length
  | [] => rfl
  | v :: vs => by unfold rest; rw [List.length_set, rest_len ρ ρ' vs]
theorem wipeE_out {ρ : Env} {j : Nat} : ∀ {vs : List Nat}, j ∉ vs → (wipeE ρ vs)[j]? = ρ[j]?
  | [], _ => rfl
  | v :: vs, h => by
    unfold wipeE
    rw [List.getElem?_set_ne (fun z => h (by rw [z]; exact List.mem_cons_self)), wipeE_out fun m => h (List.mem_cons_of_mem _ m)]
theorem wipeE_some {ρ : Env} {j : Nat} {x : Val} : ∀ {vs : List Nat}, (wipeE ρ vs)[j]? = some (some x) → ρ[j]? = some (some x) ∧ j ∉ vs
  | [], h => ⟨h, by simp⟩
  | v :: vs, h => by
    unfold wipeE at h
    by_cases hi : v = j
    · subst hi
      by_cases hv : v < (wipeE ρ vs).length
      · rw [List.getElem?_set_self hv] at h; cases h
      · rw [List.getElem?_eq_none (by simpa using hv)] at h; cases h
    · rw [List.getElem?_set_ne hi] at h
      obtain ⟨h1, h2⟩ := wipeE_some h
      exact ⟨h1, by simp only [List.mem_cons, not_or]; exact ⟨fun e => hi e.symm, h2⟩⟩
theorem wipeS_out {σ : L2.St} {j : Nat} : ∀ {vs : List Nat}, j ∉ vs → (wipe σ vs)[j]? = σ[j]?
  | [], _ => rfl
  | v :: vs, h => by
    unfold wipe
    rw [List.getElem?_set_ne (fun z => h (by rw [z]; exact List.mem_cons_self)), wipeS_out fun m => h (List.mem_cons_of_mem _ m)]
theorem wipeS_in {σ : L2.St} {j : Nat} : ∀ {vs : List Nat}, j ∈ vs → j < σ.length → (wipe σ vs)[j]? = some none
  | v :: vs, h, hl => by
    unfold wipe
    by_cases hv : v = j
    · subst hv
      exact List.getElem?_set_self (by rw [wipe_length]; exact hl)
    · rw [List.getElem?_set_ne hv]
      exact wipeS_in ((List.mem_cons.mp h).resolve_left fun z => hv z.symm) hl
theorem wipe_ext {σ σ' : L2.St} {vs : List Nat} (hl : σ'.length = σ.length) (h : ∀ j : Nat, j ∉ vs → σ'[j]? = σ[j]?) : wipe σ' vs = wipe σ vs := by
  refine List.ext_getElem? fun j => ?_
  by_cases hj : j ∈ vs
  · by_cases hlt : j < σ.length
    · rw [wipeS_in hj hlt, wipeS_in hj (by omega)]
    · rw [List.getElem?_eq_none (by rw [wipe_length]; omega), List.getElem?_eq_none (by rw [wipe_length]; omega)]
  · rw [wipeS_out hj, wipeS_out hj, h j hj]
theorem wipe_wipe {σ : L2.St} {vs : List Nat} : wipe (wipe σ vs) vs = wipe σ vs := wipe_ext (wipe_length _ _) fun j hj => wipeS_out hj
theorem rest_out {ρ ρ' : Env} {j : Nat} : ∀ {vs : List Nat}, j ∉ vs → (rest ρ ρ' vs)[j]? = ρ'[j]?
  | [], _ => rfl
  | v :: vs, h => by
    unfold rest
    rw [List.getElem?_set_ne (fun z => h (by rw [z]; exact List.mem_cons_self)), rest_out fun m => h (List.mem_cons_of_mem _ m)]
theorem rest_in {ρ ρ' : Env} {j : Nat} (hl : ρ'.length = ρ.length) (hj : j < ρ.length) : ∀ {vs : List Nat}, j ∈ vs → (rest ρ ρ' vs)[j]? = ρ[j]?
  | v :: vs, h => by
    unfold rest
    by_cases hv : v = j
    · subst hv
      rw [List.getElem?_set_self (by rw [rest_len, hl]; exact hj)]
      unfold atE
      rw [List.getElem?_eq_getElem hj]
    · rw [List.getElem?_set_ne hv]
      exact rest_in hl hj ((List.mem_cons.mp h).resolve_left fun z => hv z.symm)
section
variable {K : PySem.W.Frag} {G H G' H' : Hp} {σ σ2 : L2.St} {ρ ρ2 ρ4 : Env} {vs : List Nat}
theorem S8.wiped (s : S8 K G H σ ρ) (vs : List Nat) : S8 K G H (wipe σ vs) (wipeE ρ vs) := by
  refine ⟨s.gh, s.ht, by rw [wipeE_len, wipe_length]; exact s.len, fun i v h => ?_, fun i j u v u' v' b ne h1 h2 h3 h4 f f' => ?_⟩
  · obtain ⟨h1, hn⟩ := wipeE_some h
    obtain ⟨nb, u, hu, r⟩ := s.rel i v h1
    exact ⟨nb, u, by rw [wipeS_out hn]; exact hu, RelW.any nb r⟩
  · exact s.sep i j u v u' v' b ne (wipe_some h1).1 (wipeE_some h2).1 (wipe_some h3).1 (wipeE_some h4).1 f f'
/-- what the block owns is owned by a slot that is not the block's own -/
theorem own_blk (s : S8 K G H σ ρ) (s2 : S8 K G H σ2 ρ2) (out : ∀ j : Nat, j ∉ vs → σ2[j]? = (wipe σ vs)[j]? ∧ ρ2[j]? = (wipeE ρ vs)[j]?) (mm : ∀ b, Own H σ2 ρ2 b → Own H (wipe σ vs) (wipeE ρ vs) b ∨ H b = none) {b : Addr} (o : Own H σ2 ρ2 b) :
    ∃ (k : Nat) (u : V) (v : Val), k ∉ vs ∧ σ[k]? = some (some u) ∧ ρ[k]? = some (some v) ∧ foot H u v b := by
  rcases mm b o with ⟨k, u, v, h1, h2, f⟩ | z
  · exact ⟨k, u, v, (wipe_some h1).2, (wipe_some h1).1, (wipeE_some h2).1, f⟩
  · exact absurd z (Own.there s2 o).1
/-- behind the block -/
theorem PostX.blk (s : S8 K G H σ ρ) (s2 : S8 K G H σ2 ρ2) (hl : σ2.length = σ.length) (out : ∀ j : Nat, j ∉ vs → σ2[j]? = (wipe σ vs)[j]? ∧ ρ2[j]? = (wipeE ρ vs)[j]?) (mm : ∀ b, Own H σ2 ρ2 b → Own H (wipe σ vs) (wipeE ρ vs) b ∨ H b = none)
    (p : PostX K σ2 G H ρ2 G' H' ρ4) : PostX K σ G H ρ G' H' (rest ρ ρ4 vs) := by
  have own := fun {b} (o : Own H σ2 ρ2 b) => own_blk s s2 out mm o
  have hown : ∀ b, Own H σ2 ρ2 b → Own H σ ρ b := fun b o => let ⟨k, u, v, _, h1, h2, f⟩ := own o; ⟨k, u, v, h1, h2, f⟩
  have l4 : ρ4.length = σ2.length := p.st.len
  have lρ : ρ4.length = ρ.length := by rw [l4, hl, s.len]
  have outσ : ∀ {j : Nat}, j ∉ vs → σ2[j]? = σ[j]? := fun {j} hj => (out j hj).1.trans (wipeS_out hj)
  have kept : ∀ {j : Nat} {u : V} {v : Val}, j ∈ vs → σ[j]? = some (some u) → ρ[j]? = some (some v) → RelW K G' H' σ u v ∧ ∀ b, foot H' u v b ↔ foot H u v b := fun {j u v} hj h1 h2 => by
    obtain ⟨nb, u', hu, r⟩ := s.rel j v h2
    rw [h1] at hu; cases hu
    have hf : ∀ b, foot H u v b → ¬ Own H σ2 ρ2 b := fun b f o => by
      obtain ⟨k, u', v', hk, g1, g2, f'⟩ := own o
      exact s.sep j k u v u' v' b (fun z => hk (z ▸ hj)) h1 h2 g1 g2 f f'
    exact ⟨r.keep p.ext hf, foot.keep p.ext r hf⟩
  have slot : ∀ {j : Nat} {v : Val}, (rest ρ ρ4 vs)[j]? = some (some v) → (j ∈ vs ∧ ρ[j]? = some (some v)) ∨ (j ∉ vs ∧ ρ4[j]? = some (some v)) := fun {j v} h => by
    by_cases hj : j ∈ vs
    · have hjl : j < ρ.length := by
        have := lt_of_get h
        rw [rest_len] at this
        omega
      rw [rest_in lρ hjl hj] at h
      exact .inl ⟨hj, h⟩
    · rw [rest_out hj] at h
      exact .inr ⟨hj, h⟩
  have ownr : ∀ {j : Nat} {u : V} {v : Val} {b : Addr}, σ[j]? = some (some u) → (rest ρ ρ4 vs)[j]? = some (some v) → foot H' u v b → (j ∈ vs ∧ ρ[j]? = some (some v) ∧ foot H u v b) ∨ (j ∉ vs ∧ σ2[j]? = some (some u) ∧ ρ4[j]? = some (some v) ∧ Own H σ2 ρ2 b) := fun {j u v b} h1 h2 f => by
    rcases slot h2 with ⟨hj, h⟩ | ⟨hj, h⟩
    · exact .inl ⟨hj, h, ((kept hj h1 h).2 b).mp f⟩
    · have h1' : σ2[j]? = some (some u) := (outσ hj).trans h1
      exact .inr ⟨hj, h1', h, p.mm b ⟨j, u, v, h1', h, f⟩⟩
  refine ⟨⟨p.st.gh, p.st.ht, by rw [rest_len, lρ]; exact s.len, fun j v h => ?_, fun i j u v u' v' b ne h1 h2 h3 h4 f f' => ?_⟩, p.ext.weak hown, fun b ⟨j, u, v, h1, h2, f⟩ => ?_, fun j v h hm => ?_⟩
  · rcases slot h with ⟨hj, h⟩ | ⟨hj, h⟩
    · obtain ⟨nb, u, hu, _⟩ := s.rel j v h
      exact ⟨nb, u, hu, (kept hj hu h).1⟩
    · obtain ⟨nb, u, hu, r⟩ := p.st.rel j v h
      exact ⟨nb, u, (outσ hj).symm.trans hu, RelW.any nb r⟩
  · rcases ownr h1 h2 f with ⟨hi, g1, q1⟩ | ⟨hi, g1, g2, q1⟩
    · rcases ownr h3 h4 f' with ⟨hj, g3, q2⟩ | ⟨hj, g3, g4, q2⟩
      · exact s.sep i j u v u' v' b ne h1 g1 h3 g3 q1 q2
      · obtain ⟨k, u2, v2, hk, e1, e2, f2⟩ := own q2
        exact s.sep i k u v u2 v2 b (fun z => hk (z ▸ hi)) h1 g1 e1 e2 q1 f2
    · rcases ownr h3 h4 f' with ⟨hj, g3, q2⟩ | ⟨hj, g3, g4, q2⟩
      · obtain ⟨k, u2, v2, hk, e1, e2, f2⟩ := own q1
        exact s.sep j k u' v' u2 v2 b (fun z => hk (z ▸ hj)) h3 g3 e1 e2 q2 f2
      · exact p.st.sep i j u v u' v' b ne g1 g2 g3 g4 f f'
  · rcases ownr h1 h2 f with ⟨hi, g1, q1⟩ | ⟨hi, g1, g2, q1⟩
    · exact ⟨j, u, v, h1, g1, q1⟩
    · exact hown b q1
  · rcases slot h with ⟨hj, h⟩ | ⟨hj, h⟩
    · exact ⟨rfl, v, h, hm, fun u b h1 f => ((kept hj h1 h).2 b).mp f⟩
    · obtain ⟨_, w, hw, hm', fw⟩ := p.mt j v h hm
      refine ⟨rfl, w, (by rw [← wipeE_out hj]; exact (out j hj).2.symm.trans hw), hm', fun u b h1 f => fw u b ((outσ hj).trans h1) f⟩
end
end
end PP

end
section
set_option maxHeartbeats 1000000
set_option Elab.async false
set_option linter.all false
set_option maxRecDepth 100000
/-! PPi: the pure layer: list comprehensions, one clause and two. -/
namespace PP
open PySem PySem.Spec PyProof.Rows L2

def tIfs (X : Cx) (ifs : List Expr) : TT := fun σ H Q => ∀ (pins : List (Addr × Obj)) (s : Shared), Inv X pins σ H s →
  wpAny (model X.prog X.w) X.A (forIn ifs true fun c r => if r = true then do let ok ← isTrue c X.env (eval c X.env); pure (ForInStep.yield ok) else pure (ForInStep.yield r)) (TP X pins σ Q) X.xe s
theorem pts_star {X : Cx} {ifs : List Expr} : PTs X ifs (tIfs X ifs) := ⟨fun pins s _ _ _ I h => h pins s I⟩
theorem tIfs_of {X : Cx} {e : List Expr} {t : TT} (p : PTs X e t) {σ : L2.St} {H : Hp} {Q : Bool → Hp → Prop} (h : t σ H Q) : tIfs X e σ H Q := fun pins s I => p.run pins s σ H Q I h
def SndF (Γ : Gam) (N : List Str) (sc : Scope) (ifs : List Expr) (f : EvB) : Prop :=
  ∀ (X : Cx) (W : WX), Kn Γ X sc N W → ∀ (G H : Hp) (σ : L2.St) (ρ : Env) (Q : Bool → Hp → Prop), S8 X.K G H σ ρ →
    WP (f ρ) (fun b ρ' => ∀ G' H', PostX X.K σ G H ρ G' H' ρ' → Q b H') (ExQ Γ X.K W σ G H ρ) → tIfs X ifs σ H Q
def cYes : EvB := fun ρ => some (.ok true ρ)
/-- a turn's result: the item, if the tests let it by -/
def lcStep (c : EvB) (e : Ev) (ρ2 : Env) : Option (Option PyData × Env) := match c ρ2 with
  | some (.ok true ρ3) => match e ρ3 with
    | some (.ok (.dat y) ρ4) => some (some y, ρ4)
    | _ => none
  | some (.ok false ρ3) => some (none, ρ3)
  | _ => none
def lcM (vs : List Nat) (t : Tgt) (c : EvB) (e : Ev) : List PyData → Env → Option (List PyData × Env)
  | [], ρ => some ([], ρ)
  | d :: ds, ρ => match t d (wipeE ρ vs) with
    | none => none
    | some ρ2 => match lcStep c e ρ2 with
      | none => none
      | some (o, ρ4) => match lcM vs t c e ds (rest ρ ρ4 vs) with
        | none => none
        | some (ys, ρf) => some (o.toList ++ ys, ρf)
def finLc : Option (List PyData × Env) → Option (Rs Val)
  | some (ys, ρ) => if okLen ys.length = true then some (.ok (.dat (.list ys)) ρ) else none
  | none => none
def cLc (vs : List Nat) (it : EvI) (t : Tgt) (c : EvB) (e : Ev) : Ev := fun ρ => bnd (it ρ) fun ds ρ1 => finLc (lcM vs t c e ds ρ1)
section
variable {Γ : Gam} {N : List Str} {np : Nat} {sc : Scope} {is : List Nat}
theorem sF_nil : SndF Γ N sc [] cYes := fun X W kn G H σ ρ Q s w => tIfs_of pts_nil (w G H s.postX)
theorem sF_one {c : Expr} {f : EvB} (h : SndT Γ N sc c f) : SndF Γ N sc [c] f := fun X W kn G H σ ρ Q s w => tIfs_of (pts_one pt_star) (h X W kn G H σ ρ Q s w)
/-- the block's context -/
theorem Kn.blk {X : Cx} {W : WX} (kn : Kn Γ X sc N W) (s : Shared) (H : Hp) (scope : Scope) (C : Addr) (cl : List (Str × Addr)) (fp : List Addr) : Kn Γ (X.blk s H scope (compEnvC scope cl C X.env) fp) (relS scope sc) N (fun _ _ _ _ => False) where
  calm := kn.calm
  nn := kn.nn
  nd := kn.nd
  sc := by rw [← kn.sc]; rfl
  room := kn.room
  bl := kn.bl
  gl := kn.gl
  kt := kn.kt
  fn := kn.fn
  tk := takes0
theorem KnG.blk {X : Cx} {W : WX} (kn : Kn Γ X sc N W) (s : Shared) (H : Hp) (scope : Scope) (C : Addr) (cl : List (Str × Addr)) (fp : List Addr) : KnG (X.blk s H scope (compEnvC scope cl C X.env) fp) N (locB scope) where
  calm := kn.calm
  nn := kn.nn
  nd := kn.nd
  lo := fun x h => by
    have key : ∀ k, k ≠ .free → scope.names.lookup x = some k → (relS scope X.env.scope).names.lookup x = some k := fun k hk h => lookup_relS_keep hk h
    unfold locB at h
    split at h
    · rename_i e
      have := key _ (by decide) e
      exact ⟨.inl this, .inr this⟩
    · rename_i e
      have := key _ (by decide) e
      exact ⟨.inr this, .inl (by show (scope.names.lookup x == some .cell) = true; rw [e]; rfl)⟩
    · cases h
def gB (X : Cx) (scope : Scope) (tg : Expr) : TG := fun v σ H Q => ∀ (s : Shared) (H0 : Hp) (C : Addr) (cl : List (Str × Addr)) (fp : List Addr), tG (X.blk s H0 scope (compEnvC scope cl C X.env) fp) tg v σ H Q
def fB (X : Cx) (scope : Scope) (ifs : List Expr) : TT := fun σ H Q => ∀ (s : Shared) (H0 : Hp) (C : Addr) (cl : List (Str × Addr)) (fp : List Addr), tIfs (X.blk s H0 scope (compEnvC scope cl C X.env) fp) ifs σ H Q
def eB (X : Cx) (scope : Scope) (e : Expr) : TE := fun σ H Q => ∀ (s : Shared) (H0 : Hp) (C : Addr) (cl : List (Str × Addr)) (fp : List Addr), tE (X.blk s H0 scope (compEnvC scope cl C X.env) fp) e σ H Q
def iB (X : Cx) (scope : Scope) (tg e : Expr) : TI := fun σ H Q => ∀ (s : Shared) (H0 : Hp) (C : Addr) (cl : List (Str × Addr)) (fp : List Addr), iSt (X.blk s H0 scope (compEnvC scope cl C X.env) fp) tg e σ H Q
/-- the tests and the item of a turn, the list at D grown -/
theorem turn_go {scope : Scope} {elt : Expr} {ifs : List Expr} {fc : EvB} {fe : Ev} (hc : SndF Γ N (relS scope sc) ifs fc) (he : SndE Γ N (relS scope sc) elt fe) {X : Cx} {W : WX} (kn : Kn Γ X sc N W) {G H : Hp} {σ2 : L2.St} {ρ2 ρ4 : Env} {o : Option PyData} {D : Addr} {accV : List V}
    (s2 : S8 X.K G H σ2 ρ2) (hst : lcStep fc fe ρ2 = some (o, ρ4)) (hD : H D = some (.lst accV)) (nD : ¬ Own H σ2 ρ2 D) (gD : G D = none) (hz : accV.length < sizeLine) {Nx : Hp → Prop}
    (hn : ∀ G' H' u, PostX X.K σ2 G H ρ2 G' H' ρ4 → H' D = some (.lst accV) → G' D = none → (∀ y, o = some y → Dt X.K G' u y) → Nx (match o with | some _ => upd H' D (.lst (accV ++ [u])) | none => H')) :
    fB X scope ifs σ2 H fun b H3 => if b = true then eB X scope elt σ2 H3 fun y H4 => ∃ acc, H4 D = some (.lst acc) ∧ acc.length < sizeLine ∧ Nx (upd H4 D (.lst (acc ++ [y]))) else Nx H3 := by
  intro st H0 C cl fp
  have kb := kn.blk st H0 scope C cl fp
  unfold lcStep at hst
  have keepD : ∀ {G' H' ρ'}, PostX X.K σ2 G H ρ2 G' H' ρ' → H' D = some (.lst accV) ∧ G' D = none := fun p => ⟨p.ext.hh D _ hD nD, (p.ext.gn D (by rw [hD]; simp) nD).trans gD⟩
  split at hst
  · rename_i ρ3 ec
    split at hst
    · rename_i y ρ4' ee
      cases hst
      refine hc _ _ kb G H σ2 ρ2 _ s2 ?_
      rw [ec]
      intro G3 H3 p3
      rw [if_pos rfl]
      intro st' H0' C' cl' fp'
      have kb' := kn.blk st' H0' scope C' cl' fp'
      refine he _ _ kb' G3 H3 σ2 ρ3 _ p3.st ?_
      rw [ee]
      intro u G4 H4 pe
      have p4 := p3.trans pe.x
      exact ⟨accV, (keepD p4).1, hz, hn G4 H4 u p4 (keepD p4).1 (keepD p4).2 fun y' e => by cases e; exact pe.rv⟩
    · cases hst
  · rename_i ρ3 ec
    cases hst
    refine hc _ _ kb G H σ2 ρ2 _ s2 ?_
    rw [ec]
    intro G3 H3 p3
    rw [if_neg Bool.false_ne_true]
    exact hn G3 H3 .non p3 (keepD p3).1 (keepD p3).2 fun y e => by cases e
  · cases hst
/-- an object that the slots do not own is changed -/
theorem PostX.poke {K : PySem.W.Frag} {σ : L2.St} {G H G1 H1 : Hp} {ρ ρ1 : Env} {D : Addr} {o o' : HO} (p : PostX K σ G H ρ G1 H1 ρ1) (hD : H1 D = some o) (nD : ¬ Own H1 σ ρ1 D) (gD : G1 D = none) (hH : H D = none) (no : ∀ xs, o' ≠ .tup xs) : PostX K σ G H ρ G1 (upd H1 D o') ρ1 := by
  have foots : ∀ {i : Nat} {u : V} {v : Val}, σ[i]? = some (some u) → ρ1[i]? = some (some v) → RelW K G1 (upd H1 D o') σ u v ∧ ∀ b, foot (upd H1 D o') u v b ↔ foot H1 u v b := fun {i u v} h1 h2 => by
    obtain ⟨nb, u', hu, r⟩ := p.st.rel i v h2
    rw [h1] at hu; cases hu
    have hf : ∀ b, foot H1 u v b → b ≠ D := fun b f e => nD (e ▸ ⟨i, u, v, h1, h2, f⟩)
    have x : Ext (fun b => b = D) G1 H1 G1 (upd H1 D o') := ⟨fun _ _ h => h, fun _ _ _ => rfl, fun a z h n => by rw [upd_ne n]; exact h, fun a h => by
      by_cases e : a = D
      · subst e; rw [upd_same]; simp
      · rw [upd_ne e]; exact h⟩
    exact ⟨r.keep x hf, foot.keep x r hf⟩
  refine ⟨⟨fun a z h => ?_, fun a xs h => ?_, p.st.len, fun i v h => ?_, fun i j u v u' v' b ne h1 h2 h3 h4 f f' => ?_⟩, ⟨p.ext.gg, p.ext.gn, fun a z h n => ?_, fun a h => ?_⟩, fun b ⟨i, u, v, h1, h2, f⟩ => ?_, fun j v' h hm => ?_⟩
  · rw [upd_ne (ne_of_none h gD)]; exact p.st.gh a z h
  · by_cases e : a = D
    · subst e; rw [upd_same] at h; exact absurd (Option.some.inj h) (no xs)
    · rw [upd_ne e] at h; exact p.st.ht a xs h
  · obtain ⟨nb, u, hu, r⟩ := p.st.rel i v h
    exact ⟨nb, u, hu, (foots hu h).1⟩
  · exact p.st.sep i j u v u' v' b ne h1 h2 h3 h4 (((foots h1 h2).2 b).mp f) (((foots h3 h4).2 b).mp f')
  · rw [upd_ne (ne_of_none h hH)]; exact p.ext.hh a z h n
  · have ne : a ≠ D := fun e => h (by rw [e]; exact hH)
    rw [upd_ne ne]; exact p.ext.th a h
  · exact p.mm b ⟨i, u, v, h1, h2, ((foots h1 h2).2 b).mp f⟩
  · obtain ⟨e, w, hw, hm', fw⟩ := p.mt j v' h hm
    exact ⟨e, w, hw, hm', fun u b h1 f => fw u b h1 (((foots h1 h).2 b).mp f)⟩
theorem PostX.freeze {K : PySem.W.Frag} {σ : L2.St} {G H G1 H1 : Hp} {ρ ρ1 : Env} {D : Addr} {o : HO} (p : PostX K σ G H ρ G1 H1 ρ1) (hD : H1 D = some o) (nD : ¬ Own H1 σ ρ1 D) (gD : G1 D = none) (hH : H D = none) : PostX K σ G H ρ (upd G1 D o) H1 ρ1 := by
  refine ⟨⟨fun a z h => ?_, fun a xs h => ?_, p.st.len, fun i v h => ?_, p.st.sep⟩, ⟨fun a z h => ?_, fun a h n => ?_, p.ext.hh, p.ext.th⟩, p.mm, p.mt⟩
  · by_cases e : a = D
    · subst e; rw [upd_same] at h; cases h; exact hD
    · rw [upd_ne e] at h; exact p.st.gh a z h
  · by_cases e : a = D
    · subst e; rw [upd_same]; rw [hD] at h; exact h
    · rw [upd_ne e]; exact p.st.ht a xs h
  · obtain ⟨nb, u, hu, r⟩ := p.st.rel i v h
    have hf : ∀ b, foot H1 u v b → b ≠ D := fun b f e => nD (e ▸ ⟨i, u, v, hu, h, f⟩)
    have x : Ext (fun b => b = D) G1 H1 (upd G1 D o) H1 := ⟨fun a z h => by rw [upd_ne (ne_of_none h gD)]; exact h, fun a _ n => upd_ne n, fun _ _ h _ => h, fun _ h => h⟩
    exact ⟨nb, u, hu, r.keep x hf⟩
  · rw [upd_ne (ne_of_none (p.ext.gg a z h) gD)]; exact p.ext.gg a z h
  · have ne : a ≠ D := fun e => h (by rw [e]; exact hH)
    rw [upd_ne ne]; exact p.ext.gn a h n
/-- the heap without one object -/
def cut (H : Hp) (D : Addr) : Hp := fun a => if a = D then none else H a
theorem cut_ne {H : Hp} {D a : Addr} (h : a ≠ D) : cut H D a = H a := by unfold cut; rw [if_neg h]
theorem cut_same {H : Hp} {D : Addr} : cut H D D = none := by unfold cut; rw [if_pos rfl]
theorem cut_some {H : Hp} {D a : Addr} {o : HO} (h : cut H D a = some o) : a ≠ D ∧ H a = some o := by
  by_cases e : a = D
  · subst e; rw [cut_same] at h; cases h
  · rw [cut_ne e] at h; exact ⟨e, h⟩
theorem foot_cut {K : PySem.W.Frag} {G H : Hp} {σ : L2.St} {u : V} {v : Val} {D : Addr} (r : RelW K G H σ u v) (hf : ∀ b, foot H u v b → b ≠ D) (b : Addr) : foot (cut H D) u v b ↔ foot H u v b := by
  cases v with
  | tp pos cells =>
    obtain ⟨T, C, rfl, ne, g, g2, h, h2⟩ := r
    have hT : T ≠ D := hf T (.inl rfl)
    constructor
    · rintro (e | ⟨T', q, e, z⟩)
      · exact .inl e
      · cases e; rw [cut_ne hT] at z; exact .inr ⟨T, q, rfl, z⟩
    · rintro (e | ⟨T', q, e, z⟩)
      · exact .inl e
      · cases e; exact .inr ⟨T, q, rfl, by rw [cut_ne hT]; exact z⟩
  | _ => exact Iff.rfl
theorem RelW.cut {K : PySem.W.Frag} {G H : Hp} {σ : L2.St} {u : V} {v : Val} {D : Addr} (r : RelW K G H σ u v) (hf : ∀ b, foot H u v b → b ≠ D) : RelW K G (PP.cut H D) σ u v := by
  cases v with
  | dat d => exact r
  | bor j => exact r
  | scr ns => exact r
  | ml ds =>
    obtain ⟨a, vs, rfl, g, hh, q⟩ := r
    exact ⟨a, vs, rfl, g, by rw [cut_ne (hf a rfl)]; exact hh, q⟩
  | mk ds =>
    obtain ⟨a, vs, rfl, g, hh, q⟩ := r
    exact ⟨a, vs, rfl, g, by rw [cut_ne (hf a rfl)]; exact hh, q⟩
  | mt ds =>
    obtain ⟨a, vs, rfl, g, hh, q⟩ := r
    exact ⟨a, vs, rfl, g, by rw [cut_ne (hf a rfl)]; exact hh, q⟩
  | tp pos cells =>
    obtain ⟨T, C, rfl, ne, g, g2, hh, h2⟩ := r
    exact ⟨T, C, rfl, ne, g, g2, by rw [cut_ne (hf T (.inl rfl))]; exact hh, by rw [cut_ne (hf C (.inr ⟨T, _, rfl, hh⟩))]; exact h2⟩
section
variable {K : PySem.W.Frag} {σ : L2.St} {G H G1 H1 : Hp} {ρ ρ1 : Env} {D : Addr}
theorem own_cut (s : S8 K G H σ ρ) (nD : ¬ Own H σ ρ D) (b : Addr) : Own (cut H D) σ ρ b ↔ Own H σ ρ b := by
  have key : ∀ {i : Nat} {u : V} {v : Val}, σ[i]? = some (some u) → ρ[i]? = some (some v) → (foot (cut H D) u v b ↔ foot H u v b) := fun {i u v} h1 h2 => by
    obtain ⟨nb, u', hu, r⟩ := s.rel i v h2
    rw [h1] at hu; cases hu
    exact foot_cut r (fun b' f e => nD (by rw [← e]; exact ⟨i, u, v, h1, h2, f⟩)) b
  exact ⟨fun ⟨i, u, v, h1, h2, f⟩ => ⟨i, u, v, h1, h2, (key h1 h2).mp f⟩, fun ⟨i, u, v, h1, h2, f⟩ => ⟨i, u, v, h1, h2, (key h1 h2).mpr f⟩⟩
theorem S8.cut (s : S8 K G H σ ρ) (nD : ¬ Own H σ ρ D) (gD : G D = none) : S8 K G (PP.cut H D) σ ρ := by
  have hf : ∀ {i : Nat} {u : V} {v : Val}, σ[i]? = some (some u) → ρ[i]? = some (some v) → ∀ b, foot H u v b → b ≠ D := fun {i u v} h1 h2 b f e => nD (e ▸ ⟨i, u, v, h1, h2, f⟩)
  refine ⟨fun a z h => by rw [cut_ne (ne_of_none h gD)]; exact s.gh a z h, fun a xs h => s.ht a xs (cut_some h).2, s.len, fun i v h => ?_, fun i j u v u' v' b ne h1 h2 h3 h4 f f' => ?_⟩
  · obtain ⟨nb, u, hu, r⟩ := s.rel i v h
    exact ⟨nb, u, hu, r.cut (hf hu h)⟩
  · obtain ⟨_, w1, g1, r1⟩ := s.rel i v h2
    obtain ⟨_, w2, g2, r2⟩ := s.rel j v' h4
    rw [h1] at g1; cases g1
    rw [h3] at g2; cases g2
    exact s.sep i j u v u' v' b ne h1 h2 h3 h4 ((foot_cut r1 (hf h1 h2) b).mp f) ((foot_cut r2 (hf h3 h4) b).mp f')
/-- the object at D is forgotten at the end -/
theorem PostX.hide (p : PostX K σ G H ρ G1 H1 ρ1) (nD : ¬ Own H1 σ ρ1 D) (gD : G1 D = none) (hH : H D = none) : PostX K σ G H ρ G1 (cut H1 D) ρ1 :=
  ⟨p.st.cut nD gD, ⟨p.ext.gg, p.ext.gn, fun a z h n => by rw [cut_ne (ne_of_none h hH)]; exact p.ext.hh a z h n, fun a h => by
    have ne : a ≠ D := fun e => h (by rw [e]; exact hH)
    rw [cut_ne ne]; exact p.ext.th a h⟩, fun b o => p.mm b ((own_cut p.st nD b).mp o), fun j v' h hm => by
    obtain ⟨e, w, hw, hm', fw⟩ := p.mt j v' h hm
    refine ⟨e, w, hw, hm', fun u b h1 f => fw u b h1 ?_⟩
    obtain ⟨_, u', hu, r⟩ := p.st.rel j v' h
    rw [h1] at hu; cases hu
    exact (foot_cut r (fun b' f' e => nD (by rw [← e]; exact ⟨j, u, v', h1, h, f'⟩)) b).mp f⟩
/-- .. at the start -/
theorem PostX.base (s : S8 K G H σ ρ) (p : PostX K σ G H ρ G1 H1 ρ1) (nD : ¬ Own H σ ρ D) : PostX K σ G (cut H D) ρ G1 H1 ρ1 :=
  ⟨p.st, ⟨p.ext.gg, fun a h n => p.ext.gn a (by
      cases e : cut H D a with
      | none => exact absurd e h
      | some o => rw [(cut_some e).2]; simp) fun o => n ((own_cut s nD a).mpr o), fun a z h n => p.ext.hh a z (cut_some h).2 fun o => n ((own_cut s nD a).mpr o), fun a h => p.ext.th a (by
      cases e : cut H D a with
      | none => exact absurd e h
      | some o => rw [(cut_some e).2]; simp)⟩, fun b o => (own_cut s nD b).mpr (p.mm b o), fun j v' h hm => by
    obtain ⟨e, w, hw, hm', fw⟩ := p.mt j v' h hm
    refine ⟨e, w, hw, hm', fun u b h1 f => ?_⟩
    obtain ⟨_, u', hu, r⟩ := s.rel j w hw
    rw [h1] at hu; cases hu
    exact (foot_cut r (fun b' f' e => nD (by rw [← e]; exact ⟨j, u, w, h1, hw, f'⟩)) b).mpr (fw u b h1 f)⟩
end
/-- the loop of one clause: D grows by what its turns make -/
theorem loop_go {elt tg : Expr} {ifs : List Expr} {scope : Scope} {vs : List Nat} {t : Tgt} {fc : EvB} {fe : Ev} (hg : SndG N 0 (locB scope) is tg t) (hsub : ∀ j ∈ is, j ∈ vs) (hc : SndF Γ N (relS scope sc) ifs fc) (he : SndE Γ N (relS scope sc) elt fe)
    {X : Cx} {W : WX} (kn : Kn Γ X sc N W) {G H G1 H1 : Hp} {σ : L2.St} {ρ ρ1 ρf : Env} {ds ys acc0 : List PyData} {accV0 : List V} {D : Addr} {J : It} {Fin : Hp → Prop} (hlen : σ.length = N.length) (s : S8 X.K G H σ ρ) (HD : H D = none) (p1 : PostX X.K σ G H ρ G1 H1 ρ1) (gv : Gives X.K G1 J ds)
    (hD : H1 D = some (.lst accV0)) (gD1 : G1 D = none) (d0 : DtAll X.K G1 accV0 acc0) (em0 : lcM vs t fc fe ds ρ1 = some (ys, ρf)) (okL : (acc0 ++ ys).length ≤ 1000000)
    (hfin : ∀ Gf Hf accV, PostX X.K σ G H ρ Gf Hf ρf → (∀ a o, G1 a = some o → Gf a = some o) → Hf D = some (.lst accV) → Gf D = none → DtAll X.K Gf accV (acc0 ++ ys) → Fin Hf) :
    ∃ W : Nat → Nat → Hp → Prop, (∃ m, W 0 m H1) ∧ ∀ i m H, W i m H →
      (J.stop i H ∧ Fin H) ∨ (J.go i H ∧ ∃ Nx : Hp → Prop, (∀ H', Nx H' → ∃ m', m' < m ∧ W (i + 1) m' H') ∧ ∀ x H', J.yld i H x H' → gB X scope tg x (wipe σ vs) H' fun σ2 H2 => wipe σ2 vs = wipe σ vs ∧ fB X scope ifs σ2 H2 fun b H3 =>
        if b = true then eB X scope elt σ2 H3 fun y H4 => ∃ acc, H4 D = some (.lst acc) ∧ acc.length < sizeLine ∧ Nx (upd H4 D (.lst (acc ++ [y]))) else Nx H3) := by
  refine ⟨fun i m Hc => m = ds.length - i ∧ i ≤ ds.length ∧ ∃ (Gc : Hp) (ρc : Env) (accV : List V) (acc ys' : List PyData), PostX X.K σ G H ρ Gc Hc ρc ∧ (∀ a o, G1 a = some o → Gc a = some o) ∧ Hc D = some (.lst accV) ∧ Gc D = none ∧ DtAll X.K Gc accV acc ∧ lcM vs t fc fe (ds.drop i) ρc = some (ys', ρf) ∧ acc ++ ys' = acc0 ++ ys,
    ⟨ds.length, by omega, Nat.zero_le _, G1, ρ1, accV0, acc0, ys, p1, fun _ _ h => h, hD, gD1, d0, em0, rfl⟩, ?_⟩
  rintro i m Hc ⟨rfl, hi, Gc, ρc, accV, acc, ys1, pc, gc, hDc, gDc, dacc, em, eL2⟩
  obtain ⟨gv1, gv2⟩ := gv Hc (fun a o h => pc.st.gh a o (gc a o h)) i
  have nown : ∀ {ρ'}, PostX X.K σ G H ρ Gc Hc ρ' → ¬ Own Hc σ ρ' D := fun p o => (Own.there s (p.mm D o)).1 HD
  by_cases hlt : i < ds.length
  · have hd : ds[i]? = some ds[i] := List.getElem?_eq_getElem hlt
    obtain ⟨go, yl⟩ := gv1 _ hd
    rw [List.drop_eq_getElem_cons hlt] at em
    unfold lcM at em
    split at em
    · cases em
    · rename_i ρ2 e2
      split at em
      · cases em
      · rename_i o ρ4 e4
        split at em
        · cases em
        · rename_i ys' ρf' e5
          cases em
          refine .inr ⟨go, fun Hn => ∃ (Gn : Hp) (accV' : List V), PostX X.K σ G H ρ Gn Hn (rest ρc ρ4 vs) ∧ (∀ a o, G1 a = some o → Gn a = some o) ∧ Hn D = some (.lst accV') ∧ Gn D = none ∧ DtAll X.K Gn accV' (acc ++ o.toList),
            fun Hn ⟨Gn, accV', a1, a2, a3, a4, a5⟩ => ⟨ds.length - (i + 1), by omega, rfl, hlt, Gn, _, accV', acc ++ o.toList, ys', a1, a2, a3, a4, a5, e5, by rw [List.append_assoc]; exact eL2⟩, fun x H'' hy => ?_⟩
          obtain ⟨ex, dx⟩ := yl x H'' hy
          subst ex
          intro st2 H02 C cl fp
          have sw := pc.st.wiped vs
          refine hg _ (KnG.blk kn st2 H02 scope C cl fp) Gc H'' Gc H'' (wipe σ vs) (wipe σ vs) (wipeE ρc vs) (wipeE ρc vs) ρ2 x _ _ sw.postS (by rw [wipe_length]; exact hlen) (dx.mono gc) e2 fun σ2 hl2 p2 out => ?_
          have out' : ∀ j : Nat, j ∉ vs → σ2[j]? = (wipe σ vs)[j]? ∧ ρ2[j]? = (wipeE ρc vs)[j]? := fun j hj => out j fun z => hj (hsub j z)
          have hl2' : σ2.length = σ.length := hl2.trans hlen.symm
          refine ⟨?_, ?_⟩
          · rw [wipe_ext (by rw [wipe_length]; exact hl2') fun j hj => (out' j hj).1, wipe_wipe]
          have nD2 : ¬ Own H'' σ2 ρ2 D := fun o => by
            obtain ⟨k, u, v, _, h1, h2, f⟩ := own_blk pc.st p2.st out' p2.mm o
            exact nown pc ⟨k, u, v, h1, h2, f⟩
          have la : acc.length ≤ 1000000 := by
            have : acc.length ≤ (acc0 ++ ys).length := by rw [← eL2, List.length_append]; omega
            omega
          have hz : accV.length < sizeLine := by
            rw [dacc.len, sizeLine_eq]
            omega
          refine turn_go hc he kn p2.st e4 hDc nD2 gDc hz fun G4 H4 u p4 hD4 gD4 du => ?_
          have pb := PostX.blk pc.st p2.st hl2' out' p2.mm p4
          have pt := pc.trans pb
          have nD4 : ¬ Own H4 σ (rest ρc ρ4 vs) D := fun o => (Own.there s (pt.mm D o)).1 HD
          have gg4 : ∀ a o, G1 a = some o → G4 a = some o := fun a o h => p4.ext.gg a o (gc a o h)
          cases o with
          | none =>
            exact ⟨G4, accV, pt, gg4, hD4, gD4, by rw [show acc ++ (none : Option PyData).toList = acc from List.append_nil acc]; exact dacc.mono p4.ext.gg⟩
          | some y =>
            exact ⟨G4, accV ++ [u], pt.poke hD4 nD4 gD4 HD (fun _ e => nomatch e), gg4, upd_same, gD4, (dacc.mono p4.ext.gg).app (.cons (du y rfl) .nil)⟩
  · have e0 : ds.drop i = [] := List.drop_eq_nil_of_le (by omega)
    rw [e0] at em
    unfold lcM at em
    cases em
    rw [List.append_nil] at eL2
    subst eL2
    exact .inl ⟨gv2 (by omega), hfin Gc Hc accV pc gc hDc gDc dacc⟩
theorem sE_lc {elt tg iter : Expr} {ifs : List Expr} {scope : Scope} {own : List (Str × Nat)} {vs : List Nat} {pos : Pos} {it : EvI} {t : Tgt} {fc : EvB} {fe : Ev} (hi : SndI Γ N sc tg iter it) (ok : blkC N sc scope own = true) (hvs : own.map (·.2) = vs) (hg : SndG N 0 (locB scope) is tg t) (hsub : ∀ j ∈ is, j ∈ vs)
    (hc : SndF Γ N (relS scope sc) ifs fc) (he : SndE Γ N (relS scope sc) elt fe) (hs : ∀ env x, foldedSetIterable iter env x = pure x := by intro _ _; rfl) :
    SndE Γ N sc (.ListComp elt [⟨tg, iter, ifs, 0⟩] scope pos) (cLc vs it t fc fe) := by
  intro X W kn G H σ ρ Q s w
  refine fun pins st I => (pe_lc (wi := iSt X tg iter) (g := gB X scope tg) (tt := fB X scope ifs) (te := eB X scope elt) kn.calm (kn.nn ▸ kn.nd) pi_star (kn.nn ▸ kn.sc ▸ blkOk_by ok)
    (fun s H C cl fp => ⟨fun pins st σ H v u Q I r h => h s _ C cl fp pins st u I r⟩) (fun s H C cl fp => ⟨fun pins st σ H Q I h => h s _ C cl fp pins st I⟩) (fun s H C cl fp => ⟨fun pins st σ H Q I h => h s _ C cl fp pins st I⟩) (hs X.env)).run pins st σ H Q I ?_
  rw [hvs]
  have hlen : σ.length = N.length := I.len.trans (by rw [kn.nn])
  refine hi X W kn G H σ ρ _ s ?_
  unfold cLc at w
  rw [WP_bnd] at w
  refine w.mono (fun ds ρ1 w1 J G1 H1 p1 gv => ?_) fun _ _ h => h
  unfold finLc at w1
  split at w1
  · rename_i L ρf eL
    split at w1
    · rename_i okL
      intro D hD
      have gD1 := free_of p1.st hD
      have HD : H D = none := by
        cases e : H D with
        | none => rfl
        | some z => exact absurd hD (p1.ext.th D (by rw [e]; simp))
      refine loop_go hg hsub hc he kn hlen s HD (p1.trans (p1.st.garb hD (fun _ e => nomatch e))) gv upd_same gD1 .nil eL (of_decide_eq_true okL) fun Gf Hf accV pf gf hDf gDf df => ?_
      have nDf : ¬ Own Hf σ ρf D := fun o => (Own.there s (pf.mm D o)).1 HD
      exact w1 _ _ _ ((pf.freeze hDf nDf gDf HD).dat (.lst upd_same (df.mono fun a o h => by rw [upd_ne (ne_of_none h gDf)]; exact h)))
    · exact w1.elim
  · exact w1.elim

/-! ### two clauses -/
def lc2M (vs vs1 : List Nat) (t : Tgt) (c : EvB) (it1 : EvI) (t1 : Tgt) (c1 : EvB) (e : Ev) : List PyData → Env → Option (List PyData × Env)
  | [], ρ => some ([], ρ)
  | d :: ds, ρ => match t d (wipeE ρ vs) with
    | none => none
    | some ρ2 => match c ρ2 with
      | some (.ok true ρ3) => match it1 ρ3 with
        | some (.ok ds1 ρ4) => match lcM vs1 t1 c1 e ds1 ρ4 with
          | none => none
          | some (ys, ρ5) => match lc2M vs vs1 t c it1 t1 c1 e ds (rest ρ ρ5 vs) with
            | none => none
            | some (zs, ρf) => some (ys ++ zs, ρf)
        | _ => none
      | some (.ok false ρ3) => lc2M vs vs1 t c it1 t1 c1 e ds (rest ρ ρ3 vs)
      | _ => none
def cLc2 (vs vs1 : List Nat) (it : EvI) (t : Tgt) (c : EvB) (it1 : EvI) (t1 : Tgt) (c1 : EvB) (e : Ev) : Ev := fun ρ => bnd (it ρ) fun ds ρ1 => finLc (lc2M vs vs1 t c it1 t1 c1 e ds ρ1)
theorem sE_lc2 {elt tg iter tg1 iter1 : Expr} {ifs ifs1 : List Expr} {scope : Scope} {own : List (Str × Nat)} {vs vs1 is1 : List Nat} {pos : Pos} {it it1 : EvI} {t t1 : Tgt} {fc fc1 : EvB} {fe : Ev} (hi : SndI Γ N sc tg iter it) (ok : blkC N sc scope own = true) (hvs : own.map (·.2) = vs) (hv : ∀ i ∈ vs1, i ∈ vs)
    (hg : SndG N 0 (locB scope) is tg t) (hsub : ∀ j ∈ is, j ∈ vs) (hc : SndF Γ N (relS scope sc) ifs fc) (hi1 : SndI Γ N (relS scope sc) tg1 iter1 it1) (hg1 : SndG N 0 (locB scope) is1 tg1 t1) (hsub1 : ∀ j ∈ is1, j ∈ vs1) (hc1 : SndF Γ N (relS scope sc) ifs1 fc1)
    (he : SndE Γ N (relS scope sc) elt fe) (hs : ∀ env x, foldedSetIterable iter env x = pure x := by intro _ _; rfl) (hs1 : ∀ env x, foldedSetIterable iter1 env x = pure x := by intro _ _; rfl) :
    SndE Γ N sc (.ListComp elt [⟨tg, iter, ifs, 0⟩, ⟨tg1, iter1, ifs1, 0⟩] scope pos) (cLc2 vs vs1 it t fc it1 t1 fc1 fe) := by
  intro X W kn G H σ ρ Q s w
  refine fun pins st I => (pe_lc2 (vs1 := vs1) (wi := iSt X tg iter) (g := gB X scope tg) (tt := fB X scope ifs) (wi1 := iB X scope tg1 iter1) (g1 := gB X scope tg1) (tt1 := fB X scope ifs1) (te := eB X scope elt) kn.calm (kn.nn ▸ kn.nd) pi_star (kn.nn ▸ kn.sc ▸ blkOk_by ok) (by rw [hvs]; exact hv)
    (fun s H C cl fp => ⟨fun pins st σ H v u Q I r h => h s _ C cl fp pins st u I r⟩) (fun s H C cl fp => ⟨fun pins st σ H Q I h => h s _ C cl fp pins st I⟩) (fun s H C cl fp => ⟨fun pins st σ H Q I h => h s _ C cl fp pins st I⟩)
    (fun s H C cl fp => ⟨fun pins st σ H v u Q I r h => h s _ C cl fp pins st u I r⟩) (fun s H C cl fp => ⟨fun pins st σ H Q I h => h s _ C cl fp pins st I⟩) (fun s H C cl fp => ⟨fun pins st σ H Q I h => h s _ C cl fp pins st I⟩) (hs X.env) hs1).run pins st σ H Q I ?_
  rw [hvs]
  have hlen : σ.length = N.length := I.len.trans (by rw [kn.nn])
  refine hi X W kn G H σ ρ _ s ?_
  unfold cLc2 at w
  rw [WP_bnd] at w
  refine w.mono (fun ds ρ1 w1 J G1 H1 p1 gv => ?_) fun _ _ h => h
  unfold finLc at w1
  split at w1
  · rename_i L ρf eL
    split at w1
    · rename_i okL
      intro D hD
      have gD1 := free_of p1.st hD
      have HD : H D = none := by
        cases e : H D with
        | none => rfl
        | some z => exact absurd hD (p1.ext.th D (by rw [e]; simp))
      refine ⟨fun i m Hc => m = ds.length - i ∧ i ≤ ds.length ∧ ∃ (Gc : Hp) (ρc : Env) (accV : List V) (acc ys' : List PyData), PostX X.K σ G H ρ Gc Hc ρc ∧ (∀ a o, G1 a = some o → Gc a = some o) ∧ Hc D = some (.lst accV) ∧ Gc D = none ∧ DtAll X.K Gc accV acc ∧ lc2M vs vs1 t fc it1 t1 fc1 fe (ds.drop i) ρc = some (ys', ρf) ∧ acc ++ ys' = L,
        ⟨ds.length, by omega, Nat.zero_le _, G1, ρ1, [], [], L, p1.trans (p1.st.garb hD (fun _ e => nomatch e)), fun _ _ h => h, upd_same, gD1, .nil, eL, rfl⟩, ?_⟩
      rintro i m Hc ⟨rfl, hi, Gc, ρc, accV, acc, ys1, pc, gc, hDc, gDc, dacc, em, eL2⟩
      obtain ⟨gv1, gv2⟩ := gv Hc (fun a o h => pc.st.gh a o (gc a o h)) i
      have nown : ¬ Own Hc σ ρc D := fun o => (Own.there s (pc.mm D o)).1 HD
      by_cases hlt : i < ds.length
      · have hd : ds[i]? = some ds[i] := List.getElem?_eq_getElem hlt
        obtain ⟨go, yl⟩ := gv1 _ hd
        rw [List.drop_eq_getElem_cons hlt] at em
        unfold lc2M at em
        split at em
        · cases em
        · rename_i ρ2 e2
          -- what a turn reaches: the row behind it, what it made
          have turn : ∀ (ρ5 : Env) (ys : List PyData), (∀ ys', lc2M vs vs1 t fc it1 t1 fc1 fe (ds.drop (i + 1)) (rest ρc ρ5 vs) = some (ys', ρf) → (acc ++ ys) ++ ys' = L → ∀ Hn, (∃ (Gn : Hp) (accV' : List V), PostX X.K σ G H ρ Gn Hn (rest ρc ρ5 vs) ∧ (∀ a o, G1 a = some o → Gn a = some o) ∧ Hn D = some (.lst accV') ∧ Gn D = none ∧ DtAll X.K Gn accV' (acc ++ ys)) →
              ∃ m', m' < ds.length - i ∧ m' = ds.length - (i + 1) ∧ i + 1 ≤ ds.length ∧ ∃ (Gc : Hp) (ρc : Env) (accV : List V) (acc ys' : List PyData), PostX X.K σ G H ρ Gc Hn ρc ∧ (∀ a o, G1 a = some o → Gc a = some o) ∧ Hn D = some (.lst accV) ∧ Gc D = none ∧ DtAll X.K Gc accV acc ∧ lc2M vs vs1 t fc it1 t1 fc1 fe (ds.drop (i + 1)) ρc = some (ys', ρf) ∧ acc ++ ys' = L) := fun ρ5 ys ys' e el Hn ⟨Gn, accV', a1, a2, a3, a4, a5⟩ =>
            ⟨ds.length - (i + 1), by omega, rfl, hlt, Gn, _, accV', acc ++ ys, ys', a1, a2, a3, a4, a5, e, el⟩
          have start : ∀ {Nx : Hp → Prop}, (∀ (x : V) (σ2 : L2.St), σ2.length = σ.length → S8 X.K Gc Hc σ2 ρ2 → (∀ j : Nat, j ∉ vs → σ2[j]? = (wipe σ vs)[j]? ∧ ρ2[j]? = (wipeE ρc vs)[j]?) → (∀ b, Own Hc σ2 ρ2 b → Own Hc (wipe σ vs) (wipeE ρc vs) b ∨ Hc b = none) → ¬ Own Hc σ2 ρ2 D →
              fB X scope ifs σ2 Hc fun b H3 => if b = true then iB X scope tg1 iter1 σ2 H3 fun J1 H4 => ∃ W1 : Nat → Nat → Hp → Prop, (∃ m, W1 0 m H4) ∧ ∀ j k H, W1 j k H →
                (J1.stop j H ∧ Nx H) ∨ (J1.go j H ∧ ∃ Nx1 : Hp → Prop, (∀ H', Nx1 H' → ∃ k', k' < k ∧ W1 (j + 1) k' H') ∧ ∀ x H', J1.yld j H x H' → gB X scope tg1 x (wipe σ2 vs1) H' fun σ3 H5 => wipe σ3 vs1 = wipe σ2 vs1 ∧ fB X scope ifs1 σ3 H5 fun b H6 =>
                  if b = true then eB X scope elt σ3 H6 fun y H7 => ∃ acc, H7 D = some (.lst acc) ∧ acc.length < sizeLine ∧ Nx1 (upd H7 D (.lst (acc ++ [y]))) else Nx1 H6)
              else Nx H3) →
              ∀ x H', J.yld i Hc x H' → gB X scope tg x (wipe σ vs) H' fun σ2 H2 => wipe σ2 vs = wipe σ vs ∧ fB X scope ifs σ2 H2 fun b H3 => if b = true then iB X scope tg1 iter1 σ2 H3 fun J1 H4 => ∃ W1 : Nat → Nat → Hp → Prop, (∃ m, W1 0 m H4) ∧ ∀ j k H, W1 j k H →
                (J1.stop j H ∧ Nx H) ∨ (J1.go j H ∧ ∃ Nx1 : Hp → Prop, (∀ H', Nx1 H' → ∃ k', k' < k ∧ W1 (j + 1) k' H') ∧ ∀ x H', J1.yld j H x H' → gB X scope tg1 x (wipe σ2 vs1) H' fun σ3 H5 => wipe σ3 vs1 = wipe σ2 vs1 ∧ fB X scope ifs1 σ3 H5 fun b H6 =>
                  if b = true then eB X scope elt σ3 H6 fun y H7 => ∃ acc, H7 D = some (.lst acc) ∧ acc.length < sizeLine ∧ Nx1 (upd H7 D (.lst (acc ++ [y]))) else Nx1 H6)
              else Nx H3 := fun {Nx} body x H'' hy => by
            obtain ⟨ex, dx⟩ := yl x H'' hy
            subst ex
            intro st2 H02 C cl fp
            have sw := pc.st.wiped vs
            refine hg _ (KnG.blk kn st2 H02 scope C cl fp) Gc H'' Gc H'' (wipe σ vs) (wipe σ vs) (wipeE ρc vs) (wipeE ρc vs) ρ2 x _ _ sw.postS (by rw [wipe_length]; exact hlen) (dx.mono gc) e2 fun σ2 hl2 p2 out => ?_
            have out' : ∀ j : Nat, j ∉ vs → σ2[j]? = (wipe σ vs)[j]? ∧ ρ2[j]? = (wipeE ρc vs)[j]? := fun j hj => out j fun z => hj (hsub j z)
            have hl2' : σ2.length = σ.length := hl2.trans hlen.symm
            refine ⟨?_, ?_⟩
            · rw [wipe_ext (by rw [wipe_length]; exact hl2') fun j hj => (out' j hj).1, wipe_wipe]
            have nD2 : ¬ Own H'' σ2 ρ2 D := fun o => by
              obtain ⟨k, u, v, _, h1, h2, f⟩ := own_blk pc.st p2.st out' p2.mm o
              exact nown ⟨k, u, v, h1, h2, f⟩
            exact body x σ2 hl2' p2.st out' p2.mm nD2
          split at em
          · rename_i ρ3 e3
            split at em
            · rename_i ds1 ρ4 e4
              split at em
              · cases em
              · rename_i ys ρ5 e5
                split at em
                · cases em
                · rename_i zs ρf' e6
                  cases em
                  refine .inr ⟨go, _, turn ρ5 ys zs e6 (by rw [List.append_assoc]; exact eL2), start fun x σ2 hl2 s2 out mm2 nD2 => ?_⟩
                  intro st2 H02 C cl fp
                  refine hc _ _ (kn.blk st2 H02 scope C cl fp) Gc Hc σ2 ρ2 _ s2 ?_
                  rw [e3]
                  intro G3 H3 p3
                  rw [if_pos rfl]
                  intro st3 H03 C3 cl3 fp3
                  refine hi1 _ _ (kn.blk st3 H03 scope C3 cl3 fp3) G3 H3 σ2 ρ3 _ p3.st ?_
                  rw [e4]
                  intro J1 G4 H4 p4 gv4
                  have p34 := p3.trans p4
                  have s2c := s2.cut nD2 gDc
                  have la : (acc ++ ys).length ≤ 1000000 := by
                    have h1 := of_decide_eq_true okL
                    have : (acc ++ ys).length ≤ L.length := by rw [← eL2, ← List.append_assoc, List.length_append (as := acc ++ ys)]; exact Nat.le_add_right _ _
                    omega
                  refine loop_go hg1 hsub1 hc1 he kn (hl2.trans hlen) s2c cut_same (PostX.base s2 p34 nD2) gv4 (p34.ext.hh D _ hDc nD2) ((p34.ext.gn D (by rw [hDc]; simp) nD2).trans gDc) (dacc.mono p34.ext.gg) e5 la fun Gf Hf accV' pf gf hDf gDf df => ?_
                  have mm2' : ∀ b, Own (PP.cut Hc D) σ2 ρ2 b → Own (PP.cut Hc D) (wipe σ vs) (wipeE ρc vs) b ∨ PP.cut Hc D b = none := fun b o => by
                    rcases mm2 b ((own_cut s2 nD2 b).mp o) with z | z
                    · exact .inl ((own_cut (pc.st.wiped vs) (fun o => by
                        obtain ⟨k, u, v, h1, h2, f⟩ := o
                        exact nown ⟨k, u, v, (wipe_some h1).1, (wipeE_some h2).1, f⟩) b).mpr z)
                    · exact .inr (by
                        by_cases e : b = D
                        · subst e; exact cut_same
                        · rw [cut_ne e]; exact z)
                  have pb := PostX.blk (pc.st.cut nown gDc) s2c hl2 out mm2' pf
                  exact ⟨Gf, accV', (pc.hide nown gDc HD).trans pb, fun a o h => gf a o (p34.ext.gg a o (gc a o h)), hDf, gDf, df⟩
            · cases em
          · rename_i ρ3 e3
            refine .inr ⟨go, _, turn ρ3 [] ys1 em (by rw [List.append_nil]; exact eL2), start fun x σ2 hl2 s2 out mm2 nD2 => ?_⟩
            intro st2 H02 C cl fp
            refine hc _ _ (kn.blk st2 H02 scope C cl fp) Gc Hc σ2 ρ2 _ s2 ?_
            rw [e3]
            intro G3 H3 p3
            rw [if_neg Bool.false_ne_true]
            have pb := PostX.blk pc.st s2 hl2 out mm2 p3
            exact ⟨G3, accV, pc.trans pb, fun a o h => p3.ext.gg a o (gc a o h), p3.ext.hh D _ hDc nD2, (p3.ext.gn D (by rw [hDc]; simp) nD2).trans gDc, by rw [List.append_nil]; exact dacc.mono p3.ext.gg⟩
          · cases em
      · have e0 : ds.drop i = [] := List.drop_eq_nil_of_le (by omega)
        rw [e0] at em
        unfold lc2M at em
        cases em
        rw [List.append_nil] at eL2
        subst eL2
        refine .inl ⟨gv2 (by omega), ?_⟩
        exact w1 _ _ _ ((pc.freeze hDc nown gDc HD).dat (.lst upd_same (dacc.mono fun a o h => by rw [upd_ne (ne_of_none h gDc)]; exact h)))
    · exact w1.elim
  · exact w1.elim
end
end PP

end
section
set_option maxHeartbeats 1000000
set_option Elab.async false
set_option linter.all false
set_option maxRecDepth 100000
/-! PPj: the pure layer: a def by its body's function. -/
namespace PP
open PySem PySem.Spec PyProof.Rows L2

def backs : List Val → Env → Option (List Val)
  | [], _ => some []
  | a :: as, o :: ρ => match backs as ρ with
    | none => none
    | some bs => if isMut a = true then match o with
        | some w => if isMut w = true then some (w :: bs) else none
        | none => none
      else some (a :: bs)
  | _ :: _, [] => none
def finFn (as : List Val) (v : Val) (ρ : Env) : Option FRes := match backs as ρ with
  | some bs => some (.ok v bs)
  | none => none
def runFn (np nN : Nat) (body : Ex) (as : List Val) : Option FRes :=
  if as.length = np then match body (as.map some ++ List.replicate (nN - np) none) with
    | some (.ok (.rt v) ρ) => finFn as v ρ
    | some (.ok .nx ρ) => finFn as (.dat .none) ρ
    | some (.ex x _) => if as.all (fun a => !isMut a) = true then some (.ex x) else none
    | _ => none
  else none
theorem backs_get : ∀ {as : List Val} {ρ : Env} {bs : List Val}, backs as ρ = some bs → bs.length = as.length ∧ as.length ≤ ρ.length ∧ ∀ {j : Nat} {b : Val}, bs[j]? = some b → ∃ a, as[j]? = some a ∧ ((isMut a = true ∧ isMut b = true ∧ ρ[j]? = some (some b)) ∨ (isMut a = false ∧ b = a))
  | [], ρ, bs, h => by
    have e : bs = [] := by cases ρ <;> exact (Option.some.inj h).symm
    subst e
    exact ⟨rfl, Nat.zero_le _, fun h => by simp at h⟩
  | a :: as, [], bs, h => by cases h
  | a :: as, o :: ρ, bs, h => by
    unfold backs at h
    split at h
    · cases h
    · rename_i bs' e
      obtain ⟨l, l2, g⟩ := backs_get e
      have fin : ∀ {b}, bs = b :: bs' → ((isMut a = true ∧ isMut b = true ∧ o = some b) ∨ (isMut a = false ∧ b = a)) → bs.length = (a :: as).length ∧ (a :: as).length ≤ (o :: ρ).length ∧ ∀ {j : Nat} {b : Val}, bs[j]? = some b → ∃ a', (a :: as)[j]? = some a' ∧ ((isMut a' = true ∧ isMut b = true ∧ (o :: ρ)[j]? = some (some b)) ∨ (isMut a' = false ∧ b = a')) := fun {b} eb hb => by
        subst eb
        refine ⟨by simp [l], by simp; omega, fun {j c} hc => ?_⟩
        cases j with
        | zero =>
          have ec : b = c := by simpa using hc
          subst ec
          refine ⟨a, rfl, ?_⟩
          rcases hb with ⟨h1, h2, h3⟩ | h
          · exact .inl ⟨h1, h2, by rw [h3]; rfl⟩
          · exact .inr h
        | succ j =>
          obtain ⟨a', h1, h2⟩ := g (j := j) (b := c) (by simpa using hc)
          exact ⟨a', by simpa using h1, by simpa using h2⟩
      split at h
      · rename_i hm
        split at h
        · rename_i w
          split at h
          · rename_i hw
            exact fin (Option.some.inj h).symm (.inl ⟨hm, hw, rfl⟩)
          · cases h
        · cases h
      · rename_i hm
        exact fin (Option.some.inj h).symm (.inr ⟨by simpa using hm, rfl⟩)
section
variable {K : PySem.W.Frag} {G H G' H' : Hp} {vs : List V} {as : List Val} {n : Nat}
theorem app_some_get {α : Type} {l : List α} {m : Nat} {i : Nat} {x : α} : (l.map some ++ List.replicate m none)[i]? = some (some x) ↔ l[i]? = some x := by
  by_cases h : i < l.length
  · rw [List.getElem?_append_left (by rw [List.length_map]; exact h)]
    exact map_some_get
  · rw [List.getElem?_append_right (by rw [List.length_map]; omega), List.getElem?_eq_none (l := l) (by omega)]
    constructor
    · intro e
      rw [List.getElem?_replicate] at e
      split at e <;> cases e
    · intro e; cases e
theorem S8.start (s : S8 K G H (vs.map some) (as.map some)) (m : Nat) : S8 K G H (vs.map some ++ List.replicate m none) (as.map some ++ List.replicate m none) := by
  refine ⟨s.gh, s.ht, by simp [show as.length = vs.length by simpa using s.len], fun i v h => ?_, fun i j u v u' v' b ne h1 h2 h3 h4 f f' => ?_⟩
  · obtain ⟨nb, u, hu, r⟩ := s.rel i v (map_some_get.mpr (app_some_get.mp h))
    exact ⟨nb, u, app_some_get.mpr (map_some_get.mp hu), RelW.any nb r⟩
  · exact s.sep i j u v u' v' b ne (map_some_get.mpr (app_some_get.mp h1)) (map_some_get.mpr (app_some_get.mp h2)) (map_some_get.mpr (app_some_get.mp h3)) (map_some_get.mpr (app_some_get.mp h4)) f f'
theorem own_start (m : Nat) (b : Addr) : Own H (vs.map some ++ List.replicate m none) (as.map some ++ List.replicate m none) b ↔ Own H (vs.map some) (as.map some) b :=
  ⟨fun ⟨i, u, v, h1, h2, f⟩ => ⟨i, u, v, map_some_get.mpr (app_some_get.mp h1), map_some_get.mpr (app_some_get.mp h2), f⟩, fun ⟨i, u, v, h1, h2, f⟩ => ⟨i, u, v, app_some_get.mpr (map_some_get.mp h1), app_some_get.mpr (map_some_get.mp h2), f⟩⟩
/-- back from the body -/
theorem PostS.back {σ' : L2.St} {ρ' : Env} {bs : List Val} {u : V} {v : Val} {np m : Nat} (s : S8 K G H (vs.map some) (as.map some)) (hnp : as.length = np)
    (p : PostS K np (vs.map some ++ List.replicate m none) G H (as.map some ++ List.replicate m none) σ' G' H' ρ') (o : Out K (vs.map some ++ List.replicate m none) G H (as.map some ++ List.replicate m none) σ' G' H' ρ' u v) (e : backs as ρ' = some bs) :
    PostE K (vs.map some) G H (as.map some) G' H' (bs.map some) u v := by
  obtain ⟨lb, lρ, g⟩ := backs_get e
  have lv : as.length = vs.length := by simpa using s.len
  -- an owned argument: where it stands now
  have at_ : ∀ {j : Nat} {b : Val}, bs[j]? = some b → isMut b = true → ∃ w a, vs[j]? = some w ∧ as[j]? = some a ∧ isMut a = true ∧ σ'[j]? = some (some w) ∧ ρ'[j]? = some (some b) ∧ ∀ x, foot H' w b x → foot H w a x := fun {j b} hb hm => by
    obtain ⟨a, ha, h⟩ := g hb
    rcases h with ⟨hma, _, hr⟩ | ⟨hma, eb⟩
    · have hj : j < np := by have := lt_of_get ha; omega
      obtain ⟨es, a', ha', hma', fk⟩ := p.mt j hj b hr hm
      have ha2 := app_some_get.mp ha'
      rw [ha] at ha2; cases ha2
      have hw : vs[j]? = some vs[j] := List.getElem?_eq_getElem (by omega)
      have hσ : (vs.map some ++ List.replicate m none)[j]? = some (some vs[j]) := app_some_get.mpr hw
      exact ⟨vs[j], a, hw, ha, hma, es.trans hσ, hr, fun x f => fk _ x hσ f⟩
    · subst eb
      rw [hm] at hma; cases hma
  have nofoot : ∀ {a : Val} {w : V} {Hx : Hp} {x : Addr}, isMut a = false → ¬ foot Hx w a x := fun {a w Hx x} hm f => by
    cases a <;> first | exact f.elim | cases hm
  have fm : ∀ {a : Val} {w : V} {Hx : Hp} {x : Addr}, foot Hx w a x → isMut a = true := fun {a w Hx x} f => by
    cases hm : isMut a with
    | true => rfl
    | false => exact absurd f (nofoot hm)
  refine ⟨⟨p.st.gh, p.st.ht, by simp [lb, lv], fun j b hb => ?_, fun i j w b w' b' x ne h1 h2 h3 h4 f f' => ?_⟩, p.ext.weak fun b o => (own_start m b).mp o, fun x ⟨j, w, b, h1, h2, f⟩ => ?_, fun j b hb hm => ?_, RelW.any o.nb o.rv, fun x f => ?_⟩
  · have hb' := map_some_get.mp hb
    obtain ⟨a, ha, h⟩ := g hb'
    rcases h with ⟨_, hm, _⟩ | ⟨hma, eb⟩
    · obtain ⟨w, _, hw, _, _, hσ, hρ, _⟩ := at_ hb' hm
      obtain ⟨nb, w', hw', r⟩ := p.st.rel j b hρ
      rw [hσ] at hw'; cases hw'
      exact ⟨nb, w, map_some_get.mpr hw, RelW.any nb r⟩
    · subst eb
      obtain ⟨nb, w, hw, r⟩ := s.rel j b (map_some_get.mpr ha)
      exact ⟨nb, w, hw, RelW.any nb (r.keep p.ext fun x f => absurd f (nofoot hma))⟩
  · obtain ⟨w1, _, e1, _, _, hσ1, hρ1, _⟩ := at_ (map_some_get.mp h2) (fm f)
    obtain ⟨w2, _, e2, _, _, hσ2, hρ2, _⟩ := at_ (map_some_get.mp h4) (fm f')
    have q1 := map_some_get.mp h1
    have q2 := map_some_get.mp h3
    rw [e1] at q1; cases q1
    rw [e2] at q2; cases q2
    exact p.st.sep i j w b w' b' x ne hσ1 hρ1 hσ2 hρ2 f f'
  · obtain ⟨w1, a, e1, ha, _, hσ1, hρ1, fk⟩ := at_ (map_some_get.mp h2) (fm f)
    have q1 := map_some_get.mp h1
    rw [e1] at q1; cases q1
    exact ⟨j, w, a, h1, map_some_get.mpr ha, fk x f⟩
  · obtain ⟨w1, a, e1, ha, hma, hσ1, hρ1, fk⟩ := at_ (map_some_get.mp hb) hm
    exact ⟨rfl, a, map_some_get.mpr ha, hma, fun u x hu f => by
      have q1 := map_some_get.mp hu
      rw [e1] at q1; cases q1
      exact fk x f⟩
  · obtain ⟨f1, f2⟩ := o.fv x f
    refine ⟨fun ⟨j, w, b, h1, h2, f3⟩ => ?_, f2.imp (own_start m x).mp id⟩
    obtain ⟨w1, a, e1, ha, hma, hσ1, hρ1, fk⟩ := at_ (map_some_get.mp h2) (fm f3)
    have q1 := map_some_get.mp h1
    rw [e1] at q1; cases q1
    exact f1 ⟨j, w, b, hσ1, hρ1, f3⟩
/-- .. behind an exception: nothing was owned -/
theorem PostS.backX {σ' : L2.St} {ρ' : Env} {np m : Nat} (s : S8 K G H (vs.map some) (as.map some)) (hm : as.all (fun a => !isMut a) = true)
    (p : PostS K np (vs.map some ++ List.replicate m none) G H (as.map some ++ List.replicate m none) σ' G' H' ρ') : PostX K (vs.map some) G H (as.map some) G' H' (as.map some) := by
  have no : ∀ {j : Nat} {a : Val} {w : V} {Hx : Hp} {x : Addr}, as[j]? = some a → ¬ foot Hx w a x := fun {j a w Hx x} ha f => by
    have := List.all_eq_true.mp hm a (List.mem_of_getElem? ha)
    cases a <;> first | exact f.elim | (simp [isMut] at this)
  refine ⟨⟨p.st.gh, p.st.ht, s.len, fun j a ha => ?_, fun i j w b w' b' x ne h1 h2 h3 h4 f f' => no (map_some_get.mp h2) f⟩, p.ext.weak fun b o => (own_start m b).mp o, fun x ⟨j, w, b, h1, h2, f⟩ => absurd f (no (map_some_get.mp h2)), fun j b hb hmb => ?_⟩
  · obtain ⟨nb, w, hw, r⟩ := s.rel j a ha
    exact ⟨nb, w, hw, r.keep p.ext fun x f => absurd f (no (map_some_get.mp ha))⟩
  · have := List.all_eq_true.mp hm b (List.mem_of_getElem? (map_some_get.mp hb))
    rw [hmb] at this
    cases this
end
/-- what the module gives: names of built-ins, constants, defs -/
structure Wld (Γ : Gam) (P : Program) (w : World) (K : PySem.W.Frag) (mg : Str → Option Value) (base : Heap) : Prop where
  bl : ∀ x ∈ Γ.bl, mg ((x : String) : Str) = none
  gl : ∀ p ∈ Γ.gl, ∃ v u, mg ((p.1 : String) : Str) = some u ∧ RelV v u ∧ ∀ G, Dt K G v p.2
  kt : ∀ p ∈ Γ.kt, KTup K mg p.1 p.2
  fn : ∀ f ∈ Γ.fns, ∃ (a : Addr) (fd : FuncData) (ps : List Str), FnOk P w K mg base (L2.CX P w) Γ.k a fd ps (spOf Γ.xr f.2 K (Γ.Φ f.1)) ∧ mg ((f.1 : String) : Str) = some (.ref a) ∧ PySem.W.keepIn K (.ref a) = true ∧ Binds K fd ps []
/-- THE RULE for a def -/
theorem fn_sound {Γ : Gam} {P : Program} {w : World} {K : PySem.W.Frag} {mg : Str → Option Value} {base : Heap} {x qual : Str} {params : Arguments} {body : List Stmt} {scope : Scope} {kws : List (Str × V)} {f : Addr} {fd : FuncData} {N ps : List Str} {np : Nat} {fb : Ex}
    (F : FunD K x qual params body scope [] kws f fd) (S : FnScope N ps scope) (hnp : ps.length = np) (wl : Wld Γ P w K mg base) (hb : SndB Γ N np scope body fb) :
    FnOk P w K mg base (L2.CX P w) (Γ.k + 1) f fd ps (spOf Γ.xr np K (runFn np N.length fb)) := by
  have hnN : np ≤ N.length := by
    have := S.pre
    have h2 := congrArg List.length this
    rw [List.length_take] at h2
    omega
  refine F.ok S (fun vs H Q E h => h.1.trans hnp.symm) (fun cdv A outer s H vs Q E hr ⟨hl, G, as, s8, hφ⟩ => ⟨_, pss_star, ?_⟩)
  have las : as.length = vs.length := by simpa using s8.len
  have e0 : L2.start N vs = vs.map some ++ List.replicate (N.length - np) none := by unfold L2.start; rw [hl]
  rw [e0]
  have ks : KnS Γ (cxOf (L2.CX P w) P w K mg base N qual scope f cdv A outer s H E) scope N (fun cls d _ H => E cls d H) :=
    { calm := rfl, nn := rfl, nd := S.nd, sc := rfl, room := hr, bl := wl.bl, gl := wl.gl, kt := wl.kt, fn := wl.fn, tk := takes_of rfl rfl rfl rfl, po := passes_of rfl, cf := fun _ => rfl }
  refine hb _ _ ks G H _ (as.map some ++ List.replicate (N.length - np) none) _ (s8.start _) (by rw [List.length_append, List.length_map, List.length_replicate, hl]; omega) ?_
  unfold runFn at hφ
  rw [if_pos (las.trans hl)] at hφ
  have fin : ∀ {v ρ'}, (match finFn as v ρ' with
      | none => False
      | some (.ok v bs) => ∀ u G' H', NoBor v → PostE K (vs.map some) G H (as.map some) G' H' (bs.map some) u v → Q u H'
      | some (.ex x) => ∀ cls d G' H', PostX K (vs.map some) G H (as.map some) G' H' (as.map some) → Γ.xr x cls d H' → E cls d H') →
      ∀ σ' G' H' u, PostS K np (vs.map some ++ List.replicate (N.length - np) none) G H (as.map some ++ List.replicate (N.length - np) none) σ' G' H' ρ' → Out K (vs.map some ++ List.replicate (N.length - np) none) G H (as.map some ++ List.replicate (N.length - np) none) σ' G' H' ρ' u v → Q u H' := fun {v ρ'} h σ' G' H' u p o => by
    unfold finFn at h
    cases e : backs as ρ' with
    | none => rw [e] at h; exact h.elim
    | some bs => rw [e] at h; exact h u G' H' o.nb (PostS.back s8 (las.trans hl) p o e)
  cases r : fb (as.map some ++ List.replicate (N.length - np) none) with
  | none => rw [r] at hφ; exact hφ.elim
  | some r' =>
    rw [r] at hφ
    cases r' with
    | ok fl ρ' =>
      cases fl with
      | rt v => exact fun σ' G' H' u p o => fin hφ σ' G' H' u p o
      | nx => exact fun σ' G' H' p => fin hφ σ' G' H' .non p ⟨trivial, .non, fun b f => f.elim⟩
      | bk => exact hφ.elim
      | ct => exact hφ.elim
    | ex x ρ' =>
      intro cls d σ' G' H' p hx
      by_cases hm : as.all (fun a => !isMut a) = true
      · simp only [hm, if_true] at hφ
        exact hφ cls d G' H' (PostS.backX s8 hm p) hx
      · simp only [if_neg hm] at hφ
end PP

end
section
set_option maxHeartbeats 1000000
set_option Elab.async false
set_option linter.all false
set_option maxRecDepth 100000
/-! PPk: the pure layer: operations by values. -/
namespace PP
open PySem PySem.Spec PyProof.Rows L2

/-! ### what a value is as data -/
def dOf : Val → Option PyData
  | .dat d => some d
  | .ml ds => some (.list ds)
  | _ => none
def lOf : Val → Option (List PyData)
  | .dat (.list ds) => some ds
  | .ml ds => some ds
  | _ => none
mutual
theorem Dt.lay {K : PySem.W.Frag} {G : Hp} : ∀ {u : V} {d : PyData}, Dt K G u d → d.canLay0 = true
  | _, _, .non => rfl
  | _, _, .bl b => rfl
  | _, _, .int i => rfl
  | _, _, .str x h => by simpa [PyData.canLay0] using h
  | _, _, .lst hs ha => by simpa [PyData.canLay0] using DtAll.lay ha
  | _, _, .tup hs ha => by simpa [PyData.canLay0] using DtAll.lay ha
theorem DtAll.lay {K : PySem.W.Frag} {G : Hp} : ∀ {us : List V} {ds : List PyData}, DtAll K G us ds → PyData.canLayAll0 ds = true
  | _, _, .nil => rfl
  | _, _, .cons a b => by simp [PyData.canLayAll0, Dt.lay a, DtAll.lay b]
end
theorem Dt.xf {K : PySem.W.Frag} {G : Hp} (b : Bool) : Dt K G (.bl b) (.bool (false ^^ b)) := by
  rw [Bool.false_xor]
  exact .bl b
theorem Dt.xt {K : PySem.W.Frag} {G : Hp} (b : Bool) : Dt K G (.bl (!b)) (.bool (true ^^ b)) := by
  rw [Bool.true_xor]
  exact .bl _
section
variable {K : PySem.W.Frag} {G H : Hp} {σ : L2.St} {u : V} {a : Val} {d : PyData} {ds : List PyData}
theorem RelW.dOf (gh : ∀ p o, G p = some o → H p = some o) (r : RelW K G H σ u a) (e : PP.dOf a = some d) : Dp K H u d ∧ d.canLay0 = true := by
  cases a with
  | dat d' => cases e; exact ⟨(Dt.mono gh r).dp, Dt.lay r⟩
  | ml ds =>
    cases e
    obtain ⟨b, vs, rfl, g, h, q⟩ := r
    exact ⟨.lst (.inl (.inl h)) (DtAll.mono gh q).dp, by simpa [PyData.canLay0] using DtAll.lay q⟩
  | _ => cases e
theorem RelW.lOf (gh : ∀ p o, G p = some o → H p = some o) (r : RelW K G H σ u a) (e : PP.lOf a = some ds) : ∃ b vs, u = .ref b ∧ H b = some (.lst vs) ∧ DtAll K G vs ds := by
  unfold PP.lOf at e
  split at e
  · cases e
    cases (show Dt K G u (.list _) from r) with
    | lst hs ha => exact ⟨_, _, rfl, gh _ _ hs, ha⟩
  · cases e
    obtain ⟨b, vs, rfl, g, h, q⟩ := r
    exact ⟨b, vs, rfl, h, q⟩
  · cases e
theorem RelW.tOf (gh : ∀ p o, G p = some o → H p = some o) (r : RelW K G H σ u (.dat (.tuple ds))) : ∃ b vs, u = .ref b ∧ H b = some (.tup vs) ∧ G b = some (.tup vs) ∧ DtAll K G vs ds := by
  cases (show Dt K G u (.tuple _) from r) with
  | tup hs ha => exact ⟨_, _, rfl, gh _ _ hs, hs, ha⟩
end
/-! ### the rules' frame -/
theorem OpS.of {f : Value → Value → Sem Value} {op : Op2}
    (h : ∀ (X : Cx), X.calm = true → X.A.units + 200 < cLine → ∀ (G H : Hp) (σ' : L2.St) (x y : V) (a b : Val) (d : PyData) (Q : VK), (∀ p o, G p = some o → H p = some o) → RelW X.K G H σ' x a → RelW X.K G H σ' y b → op a b = some d →
      (∀ z G' H', New G H G' H' → Dt X.K G' z d → Q z H') → ∃ r : R2, OpR X f r ∧ r x y H Q) : OpS f op := by
  intro X hc hu pins s σ σ' G H x y v u a b d Q I rx ry gh ra rb na nb e q
  obtain ⟨r, hr, w⟩ := h X hc hu G H σ' x y a b d Q gh ra rb e q
  exact hr pins s σ H x y v u Q I rx ry w
def orO (f g : Op2) : Op2 := fun a b => match f a b with
  | some d => some d
  | none => g a b
theorem OpS.or {o : Value → Value → Sem Value} {f g : Op2} (hf : OpS o f) (hg : OpS o g) : OpS o (orO f g) := by
  intro X hc hu pins s σ σ' G H x y v u a b d Q I rx ry gh ra rb na nb e q
  unfold orO at e
  split at e
  · rename_i d' e'
    cases e
    exact hf X hc hu pins s σ σ' G H x y v u a b _ Q I rx ry gh ra rb na nb e' q
  · exact hg X hc hu pins s σ σ' G H x y v u a b d Q I rx ry gh ra rb na nb e q
/-! ### ints -/
def oI (C : Int → Int → Bool) (g : Int → Int → PyData) : Op2 := fun a b => match a, b with
  | .dat (.int i), .dat (.int j) => if C i j = true then some (g i j) else none
  | _, _ => none
theorem oI_inv {C : Int → Int → Bool} {g : Int → Int → PyData} {a b : Val} {d : PyData} (e : oI C g a b = some d) : ∃ i j, a = .dat (.int i) ∧ b = .dat (.int j) ∧ C i j = true ∧ d = g i j := by
  unfold oI at e
  split at e
  · split at e
    · rename_i i j hc
      cases e
      exact ⟨i, j, rfl, rfl, hc, rfl⟩
    · cases e
  · cases e
theorem RelW.int {K : PySem.W.Frag} {G H : Hp} {σ : L2.St} {u : V} {i : Int} (r : RelW K G H σ u (.dat (.int i))) : u = .int i := by
  cases (show Dt K G u (.int i) from r)
  rfl
theorem sO_I {f : Value → Value → Sem Value} {C : Int → Int → Bool} {g : Int → Int → PyData} {gv : Int → Int → V} (hg : ∀ K G i j, Dt K G (gv i j) (g i j)) (h : ∀ X : Cx, OpR X f (rI (fun i j => C i j = true) gv)) : OpS f (oI C g) := by
  refine OpS.of fun X hc hu G H σ' x y a b d Q gh ra rb e q => ?_
  obtain ⟨i, j, rfl, rfl, hC, rfl⟩ := oI_inv e
  rw [ra.int, rb.int]
  exact ⟨_, h X, i, j, rfl, rfl, hC, q _ G H New.refl (hg _ _ _ _)⟩
theorem sO_I0 {f : Value → Value → Sem Value} {g : Int → Int → PyData} {gv : Int → Int → V} (hg : ∀ K G i j, Dt K G (gv i j) (g i j)) (h : ∀ X : Cx, OpR X f (rI0 gv)) : OpS f (oI (fun _ _ => true) g) := by
  refine OpS.of fun X hc hu G H σ' x y a b d Q gh ra rb e q => ?_
  obtain ⟨i, j, rfl, rfl, hC, rfl⟩ := oI_inv e
  rw [ra.int, rb.int]
  exact ⟨_, h X, i, j, rfl, rfl, q _ G H New.refl (hg _ _ _ _)⟩
def oAddI : Op2 := oI (fun _ _ => true) fun i j => .int (i + j)
def oSub : Op2 := oI (fun _ _ => true) fun i j => .int (i - j)
def oMulI : Op2 := oI (fun i j => decide (i.natAbs.log2 + j.natAbs.log2 < 1000000)) fun i j => .int (i * j)
def oFdv : Op2 := oI (fun _ j => decide (0 < j ∧ j.natAbs.log2 < 9000)) fun i j => .int (i / j)
def oMod : Op2 := oI (fun _ j => decide (0 < j)) fun i j => .int (i % j)
def oLtI : Op2 := oI (fun _ _ => true) fun i j => .bool (decide (i < j))
def oLeI : Op2 := oI (fun _ _ => true) fun i j => .bool (decide (i ≤ j))
def oGtI : Op2 := oI (fun _ _ => true) fun i j => .bool (decide (j < i))
def oGeI : Op2 := oI (fun _ _ => true) fun i j => .bool (decide (j ≤ i))
theorem OpR.weak {X : Cx} {f : Value → Value → Sem Value} {C C' : Int → Int → Prop} {g : Int → Int → V} (h : OpR X f (rI C g)) (hc : ∀ i j, C' i j → C i j) : OpR X f (rI C' g) :=
  fun pins s σ H x y v u Q I rx ry ⟨i, j, e1, e2, c, q⟩ => h pins s σ H x y v u Q I rx ry ⟨i, j, e1, e2, hc i j c, q⟩
theorem s_addI : OpS (binaryOp .Add) oAddI := sO_I0 (fun _ _ _ _ => .int _) fun X => op_add
theorem s_sub : OpS (binaryOp .Sub) oSub := sO_I0 (fun _ _ _ _ => .int _) fun X => op_sub
theorem s_mulI : OpS (binaryOp .Mult) oMulI := sO_I (fun _ _ _ _ => .int _) fun X => OpR.weak op_mulW fun i j h => (show CMulW i j from of_decide_eq_true (p := i.natAbs.log2 + j.natAbs.log2 < 1000000) h)
theorem s_fdv : OpS (binaryOp .FloorDiv) oFdv := sO_I (fun _ _ _ _ => .int _) fun X => OpR.weak op_fdivW fun i j h => (show CDivW i j from of_decide_eq_true (p := 0 < j ∧ j.natAbs.log2 < 9000) h)
theorem s_mod : OpS (binaryOp .Mod) oMod := sO_I (fun _ _ _ _ => .int _) fun X => OpR.weak op_mod fun i j h => of_decide_eq_true h
theorem s_ltI : OpS (compareOp .Lt) oLtI := sO_I0 (fun _ _ _ _ => .bl _) fun X => op_lt
theorem s_leI : OpS (compareOp .LtE) oLeI := sO_I0 (fun _ _ _ _ => .bl _) fun X => op_le
theorem s_gtI : OpS (compareOp .Gt) oGtI := sO_I0 (fun _ _ _ _ => .bl _) fun X => op_gt
theorem s_geI : OpS (compareOp .GtE) oGeI := sO_I0 (fun _ _ _ _ => .bl _) fun X => op_ge
/-! ### equality of data, membership -/
def dpt (d e : PyData) : Bool := decide (min d.depth e.depth ≤ 100)
def oEqv (neg : Bool) : Op2 := fun a b => match dOf a, dOf b with
  | some d, some e => if dpt d e = true then some (.bool (neg ^^ PyData.eqv d e)) else none
  | _, _ => none
theorem oEqv_inv {neg : Bool} {a b : Val} {z : PyData} (e : oEqv neg a b = some z) : ∃ d d', dOf a = some d ∧ dOf b = some d' ∧ min d.depth d'.depth ≤ 100 ∧ z = .bool (neg ^^ PyData.eqv d d') := by
  unfold oEqv at e
  split at e
  · rename_i d d' e1 e2
    split at e
    · rename_i h
      cases e
      exact ⟨d, d', e1, e2, of_decide_eq_true h, rfl⟩
    · cases e
  · cases e
def oEq : Op2 := oEqv false
def oNe : Op2 := oEqv true
theorem s_eq : OpS (compareOp .Eq) oEq := by
  intro X hc hu pins s σ σ' G H x y v u a b d Q I rx ry gh ra rb na nb e q
  obtain ⟨d1, d2, e1, e2, hd, rfl⟩ := oEqv_inv e
  have r1 := ra.dOf gh e1
  have r2 := rb.dOf gh e2
  obtain ⟨as, q1⟩ := Dp.reads I d1 x v r1.1 rx
  obtain ⟨bs, q2⟩ := Dp.reads I d2 y u r2.1 ry
  exact SeqAt.compareEq_reads q1 q2 r1.2 r2.2 (by omega) ⟨.bl _, H, I, rfl, q _ G H New.refl (Dt.xf _)⟩
theorem s_ne : OpS (compareOp .NotEq) oNe := by
  intro X hc hu pins s σ σ' G H x y v u a b d Q I rx ry gh ra rb na nb e q
  obtain ⟨d1, d2, e1, e2, hd, rfl⟩ := oEqv_inv e
  have r1 := ra.dOf gh e1
  have r2 := rb.dOf gh e2
  obtain ⟨as, q1⟩ := Dp.reads I d1 x v r1.1 rx
  obtain ⟨bs, q2⟩ := Dp.reads I d2 y u r2.1 ry
  exact SeqAt.compareNe_reads q1 q2 r1.2 r2.2 (by omega) ⟨.bl _, H, I, rfl, q _ G H New.refl (Dt.xt _)⟩
def dptA (ds : List PyData) (d : PyData) : Bool := decide (min (PyData.depthAll ds) d.depth ≤ 100)
/-- x in xs, xs a list, a tuple -/
def oInS (neg : Bool) : Op2 := fun a b => match dOf a, dOf b with
  | some d, some (.list ds) => if dptA ds d = true then some (.bool (neg ^^ ds.any fun z => PyData.eqv z d)) else none
  | some d, some (.tuple ds) => if dptA ds d = true then some (.bool (neg ^^ ds.any fun z => PyData.eqv z d)) else none
  | _, _ => none
theorem oInS_inv {neg : Bool} {a b : Val} {z : PyData} (e : oInS neg a b = some z) : ∃ d ds, dOf a = some d ∧ (dOf b = some (.list ds) ∨ dOf b = some (.tuple ds)) ∧ min (PyData.depthAll ds) d.depth ≤ 100 ∧ z = .bool (neg ^^ ds.any fun z => PyData.eqv z d) := by
  unfold oInS at e
  split at e
  · rename_i d ds e1 e2
    split at e
    · rename_i h
      cases e
      exact ⟨d, ds, e1, .inl e2, of_decide_eq_true h, rfl⟩
    · cases e
  · rename_i d ds e1 e2
    split at e
    · rename_i h
      cases e
      exact ⟨d, ds, e1, .inr e2, of_decide_eq_true h, rfl⟩
    · cases e
  · cases e
theorem s_inS : OpS (compareOp .In) (oInS false) := by
  intro X hc hu pins s σ σ' G H x y v u a b d Q I rx ry gh ra rb na nb e q
  obtain ⟨d1, ds, e1, e2, hd, rfl⟩ := oInS_inv e
  have r1 := ra.dOf gh e1
  obtain ⟨as, q1⟩ := Dp.reads I d1 x v r1.1 rx
  have hq := q _ G H New.refl (Dt.xf (ds.any fun z => PyData.eqv z d1))
  rcases e2 with e2 | e2
  · have r2 := rb.dOf gh e2
    obtain ⟨bs, q2⟩ := Dp.reads I (.list ds) y u r2.1 ry
    exact SeqAt.in_list_reads q2 q1 (by simpa [PyData.canLay0] using r2.2) r1.2 (by omega) ⟨.bl _, H, I, rfl, hq⟩
  · have r2 := rb.dOf gh e2
    obtain ⟨bs, q2⟩ := Dp.reads I (.tuple ds) y u r2.1 ry
    exact SeqAt.in_tuple_reads q2 q1 (by simpa [PyData.canLay0] using r2.2) r1.2 (by omega) ⟨.bl _, H, I, rfl, hq⟩
theorem s_notInS : OpS (compareOp .NotIn) (oInS true) := by
  intro X hc hu pins s σ σ' G H x y v u a b d Q I rx ry gh ra rb na nb e q
  obtain ⟨d1, ds, e1, e2, hd, rfl⟩ := oInS_inv e
  have r1 := ra.dOf gh e1
  obtain ⟨as, q1⟩ := Dp.reads I d1 x v r1.1 rx
  have hq := q _ G H New.refl (Dt.xt (ds.any fun z => PyData.eqv z d1))
  rcases e2 with e2 | e2
  · have r2 := rb.dOf gh e2
    obtain ⟨bs, q2⟩ := Dp.reads I (.list ds) y u r2.1 ry
    exact SeqAt.notIn_list_reads q2 q1 (by simpa [PyData.canLay0] using r2.2) r1.2 (by omega) ⟨.bl _, H, I, rfl, hq⟩
  · have r2 := rb.dOf gh e2
    obtain ⟨bs, q2⟩ := Dp.reads I (.tuple ds) y u r2.1 ry
    exact SeqAt.notIn_tuple_reads q2 q1 (by simpa [PyData.canLay0] using r2.2) r1.2 (by omega) ⟨.bl _, H, I, rfl, hq⟩
/-- a sign in a text -/
def oInC (neg : Bool) : Op2 := fun a b => match a, b with
  | .dat (.str x), .dat (.str z) => match x.cps.toList with
    | [c] => some (.bool (neg ^^ decide (c ∈ z.cps.toList)))
    | _ => none
  | _, _ => none
theorem RelW.str {K : PySem.W.Frag} {G H : Hp} {σ : L2.St} {u : V} {x : Str} (r : RelW K G H σ u (.dat (.str x))) : u = .str x := by
  cases (show Dt K G u (.str x) from r)
  rfl
theorem oInC_inv {neg : Bool} {a b : Val} {d : PyData} (e : oInC neg a b = some d) : ∃ c z, a = .dat (.str ⟨#[c]⟩) ∧ b = .dat (.str z) ∧ d = .bool (neg ^^ decide (c ∈ z.cps.toList)) := by
  unfold oInC at e
  split at e
  · rename_i x z
    split at e
    · rename_i c hx
      cases e
      have ex : x = ⟨#[c]⟩ := by
        cases x with
        | mk cps =>
          have : cps = #[c] := by
            apply Array.ext'
            simpa using hx
          rw [this]
      subst ex
      exact ⟨c, z, rfl, rfl, rfl⟩
    · cases e
  · cases e
theorem s_inC : OpS (compareOp .In) (oInC false) := by
  refine OpS.of fun X hc hu G H σ' x y a b d Q gh ra rb e q => ?_
  obtain ⟨c, z, rfl, rfl, rfl⟩ := oInC_inv e
  rw [ra.str, rb.str]
  exact ⟨_, op_in_sign, c, z, rfl, rfl, q _ G H New.refl (Dt.xf _)⟩
theorem s_notInC : OpS (compareOp .NotIn) (oInC true) := by
  refine OpS.of fun X hc hu G H σ' x y a b d Q gh ra rb e q => ?_
  obtain ⟨c, z, rfl, rfl, rfl⟩ := oInC_inv e
  rw [ra.str, rb.str]
  exact ⟨_, op_notIn_sign, c, z, rfl, rfl, q _ G H New.refl (Dt.xt _)⟩
/-! ### is -/
def oIsB (neg : Bool) : Op2 := fun a b => match a, b with
  | .dat (.bool x), .dat (.bool y) => some (.bool (neg ^^ decide (x = y)))
  | _, _ => none
theorem oIsB_inv {neg : Bool} {a b : Val} {d : PyData} (e : oIsB neg a b = some d) : ∃ x y, a = .dat (.bool x) ∧ b = .dat (.bool y) ∧ d = .bool (neg ^^ decide (x = y)) := by
  unfold oIsB at e
  split at e
  · cases e; exact ⟨_, _, rfl, rfl, rfl⟩
  · cases e
theorem RelW.bl {K : PySem.W.Frag} {G H : Hp} {σ : L2.St} {u : V} {x : Bool} (r : RelW K G H σ u (.dat (.bool x))) : u = .bl x := by
  cases (show Dt K G u (.bool x) from r)
  rfl
theorem s_isB : OpS (compareOp .Is) (oIsB false) := by
  refine OpS.of fun X hc hu G H σ' x y a b d Q gh ra rb e q => ?_
  obtain ⟨c, z, rfl, rfl, rfl⟩ := oIsB_inv e
  rw [ra.bl, rb.bl]
  exact ⟨_, op_isBl, c, z, rfl, rfl, q _ G H New.refl (Dt.xf _)⟩
theorem s_isNotB : OpS (compareOp .IsNot) (oIsB true) := by
  refine OpS.of fun X hc hu G H σ' x y a b d Q gh ra rb e q => ?_
  obtain ⟨c, z, rfl, rfl, rfl⟩ := oIsB_inv e
  rw [ra.bl, rb.bl]
  exact ⟨_, op_notBl, c, z, rfl, rfl, q _ G H New.refl (Dt.xt _)⟩
/-! ### + of tuples, of lists -/
def oCatT : Op2 := fun a b => match a, b with
  | .dat (.tuple xs), .dat (.tuple ys) => if okLen (xs.length + ys.length) = true then some (.tuple (xs ++ ys)) else none
  | _, _ => none
theorem s_catT : OpS (binaryOp .Add) oCatT := by
  refine OpS.of fun X hc hu G H σ' x y a b d Q gh ra rb e q => ?_
  unfold oCatT at e
  split at e
  · rename_i xs ys
    split at e
    · rename_i ho
      cases e
      obtain ⟨p, vs, rfl, h1, g1, q1⟩ := ra.tOf gh
      obtain ⟨p2, ws, rfl, h2, g2, q2⟩ := rb.tOf gh
      refine ⟨_, op_catA, p, p2, vs, ws, rfl, rfl, .inl (.inl h1), .inl (.inl h2), by rw [q1.len, q2.len]; exact okLen.line ho, fun e => ?_, fun ne e => ?_, fun n1 n2 z hz => ?_⟩
      · subst e
        cases q1
        exact q _ G H New.refl (.tup g2 q2)
      · subst e
        cases q2
        rw [List.append_nil] at q
        exact q _ G H New.refl (.tup g1 q1)
      · have gz : G z = none := by
          cases eg : G z with
          | none => rfl
          | some o => rw [gh z o eg] at hz; cases hz
        have mn : ∀ a o, G a = some o → upd G z (.tup (vs ++ ws)) a = some o := fun a o h => by rw [upd_ne (ne_of_none h gz)]; exact h
        exact q _ _ _ (New.push hz) (.tup upd_same ((q1.mono mn).app (q2.mono mn)))
    · cases e
  · cases e
def oCatL : Op2 := fun a b => match lOf a, lOf b with
  | some xs, some ys => if okLen (xs.length + ys.length) = true then some (.list (xs ++ ys)) else none
  | _, _ => none
theorem s_catL : OpS (binaryOp .Add) oCatL := by
  refine OpS.of fun X hc hu G H σ' x y a b d Q gh ra rb e q => ?_
  unfold oCatL at e
  split at e
  · rename_i xs ys e1 e2
    split at e
    · rename_i ho
      cases e
      obtain ⟨p, vs, rfl, h1, q1⟩ := ra.lOf gh e1
      obtain ⟨p2, ws, rfl, h2, q2⟩ := rb.lOf gh e2
      refine ⟨_, op_cat, p, p2, vs, ws, rfl, rfl, h1, h2, by rw [q1.len, q2.len]; exact okLen.line ho, fun z hz => ?_⟩
      have gz : G z = none := by
        cases eg : G z with
        | none => rfl
        | some o => rw [gh z o eg] at hz; cases hz
      have mn : ∀ a o, G a = some o → upd G z (.lst (vs ++ ws)) a = some o := fun a o h => by rw [upd_ne (ne_of_none h gz)]; exact h
      exact q _ _ _ (New.push hz) (.lst upd_same ((q1.mono mn).app (q2.mono mn)))
    · cases e
  · cases e
/-! ### * of lists, of tuples -/
def reps {α : Type} (n : Nat) (xs : List α) : List α := (List.replicate n xs).flatten
theorem DtAll.reps {K : PySem.W.Frag} {G : Hp} {us : List V} {ds : List PyData} (h : DtAll K G us ds) : ∀ n, DtAll K G (PP.reps n us) (PP.reps n ds)
  | 0 => .nil
  | n + 1 => by
    show DtAll K G (List.replicate (n + 1) us).flatten (List.replicate (n + 1) ds).flatten
    rw [List.replicate_succ, List.replicate_succ, List.flatten_cons, List.flatten_cons]
    exact h.app (DtAll.reps h n)
def oRepL : Op2 := fun a b => match lOf a, b with
  | some xs, .dat (.int k) => if decide (0 ≤ k ∧ k ≤ 1000) && decide (xs.length ≤ 1000) then some (.list (reps k.toNat xs)) else none
  | _, _ => none
theorem s_repL : OpS (binaryOp .Mult) oRepL := by
  refine OpS.of fun X hc hu G H σ' x y a b d Q gh ra rb e q => ?_
  unfold oRepL at e
  split at e
  · rename_i xs k e1
    split at e
    · rename_i ho
      cases e
      rw [Bool.and_eq_true] at ho
      have h1 := of_decide_eq_true ho.1
      have h2 := of_decide_eq_true ho.2
      obtain ⟨p, vs, rfl, hp, q1⟩ := ra.lOf gh e1
      rw [rb.int]
      have hl : vs.length * k.toNat ≤ 1000 * 1000 := Nat.mul_le_mul (by rw [q1.len]; exact h2) (by omega)
      refine ⟨_, op_rep, p, k, vs, rfl, rfl, hp, by omega, by omega, by rw [sizeLine_eq]; omega, fun z hz => ?_⟩
      have gz : G z = none := by
        cases eg : G z with
        | none => rfl
        | some o => rw [gh z o eg] at hz; cases hz
      exact q _ _ _ (New.push hz) (.lst upd_same ((q1.reps _).mono fun a o h => by rw [upd_ne (ne_of_none h gz)]; exact h))
    · cases e
  · cases e
theorem tup_once (l : Addr) (items : Array Value) (n : Nat) (dd : Option Addr) (sl : Array (Option Value)) (u : Tok) :
    Meets (Builtin.«tuple.__mul__» ⟨[.ref l, .int 1 u], []⟩) fun _ R s => s.heap.get? l = some { cls := .type "tuple", dict := dd, data := .seq items n, slots := sl } ∧ R (.ok (.ret (.ref l))) s :=
  .of_wp fun prog w A R st ⟨h0, h1⟩ => by
    obtain ⟨hp, g, d, tk, os⟩ := st
    have f1 := AutoSeq1.idx_int
    wp_walk using AutoSeq1.wpAny_loadPart' h0
    repeat (first
      | (refine wpAny_ite_true (by simp) ?_; wp_walk using AutoSeq1.wpAny_loadPart' h0)
      | (refine wpAny_ite_false (by simp) ?_; wp_walk using AutoSeq1.wpAny_loadPart' h0))
    exact ⟨_, rfl, h1⟩
/-- a tuple taken once is itself -/
theorem op_once {X : Cx} : OpR X (binaryOp .Mult) fun x y H Q => ∃ l xs, x = .ref l ∧ y = .int 1 ∧ SqT X.K H l xs ∧ Q (.ref l) H := by
  intro pins s σ H x y v u Q I rx ry ⟨l, xs, ex, ey, hT, q⟩
  subst ex ey
  cases rx
  obtain ⟨t, rfl⟩ := ry
  obtain ⟨its, r, ⟨⟨cls, dd, data, sl⟩, ho, hc, n, hd⟩, hs⟩ := I.tuple hT
  simp only at hc hd
  subst hc hd
  have m2 := call_meets (prog := X.prog) (w := X.w) (A := X.A) (E := X.xe) (s := s) (Q := EP X pins σ Q) F.slot_tuple_mul (show Shared.TypeIs s (.ref l) "tuple" from ⟨_, ho, rfl⟩) F.entry_tuple_mul (F.args_tuple_mul_2 _ _) (tup_once l its.toArray n dd sl t) ⟨ho, .ref l, H, I, rfl, q⟩
  exact wpAny_binaryOp_repeat_ref (T := "tuple") (U := "int") (by decide) ⟨_, ho, rfl⟩ (fun s' => typeIs_int s' 1 t) noFill_tuple_mul F.fills_int_mul F.slot_int_rmul repeat_tuple F.slot_int_index.lookup
    (call_meets F.slot_int_rmul (typeIs_int s 1 t) F.entry_int_rmul (F.args_int_rmul_2 _ _) (int_rmul_tuple 1 t l its.toArray n dd sl) ⟨ho, rfl, ⟨_, ho, rfl⟩, m2⟩)
def oRepT : Op2 := fun a b => match a, b with
  | .dat (.tuple xs), .dat (.int k) => if decide (1 ≤ k ∧ k ≤ 1000) && decide (xs.length ≤ 1000) && !xs.isEmpty then some (.tuple (reps k.toNat xs)) else none
  | _, _ => none
theorem s_repT : OpS (binaryOp .Mult) oRepT := by
  refine OpS.of fun X hc hu G H σ' x y a b d Q gh ra rb e q => ?_
  unfold oRepT at e
  split at e
  · rename_i xs k
    split at e
    · rename_i ho
      cases e
      simp only [Bool.and_eq_true, decide_eq_true_eq, Bool.not_eq_true'] at ho
      obtain ⟨⟨h1, h2⟩, h3⟩ := ho
      obtain ⟨p, vs, rfl, hp, g1, q1⟩ := ra.tOf gh
      rw [rb.int]
      by_cases hk : k = 1
      · subst hk
        refine ⟨_, op_once, p, vs, rfl, rfl, .inl (.inl hp), ?_⟩
        have e1 : reps (1 : Int).toNat xs = xs := by simp [reps]
        rw [e1] at q
        exact q _ G H New.refl (.tup g1 q1)
      · refine ⟨_, op_repT, p, k, vs, rfl, rfl, .inl (.inl hp), ?_, by omega, by omega, by rw [q1.len]; exact h2, fun z hz => ?_⟩
        · intro e
          subst e
          cases q1
          cases h3
        · have gz : G z = none := by
            cases eg : G z with
            | none => rfl
            | some o => rw [gh z o eg] at hz; cases hz
          exact q _ _ _ (New.push hz) (.tup upd_same ((q1.reps _).mono fun a o h => by rw [upd_ne (ne_of_none h gz)]; exact h))
    · cases e
  · cases e
end PP

end
section
set_option maxHeartbeats 1000000
set_option Elab.async false
set_option linter.all false
set_option maxRecDepth 100000
/-! PPl: the pure layer: calls of built-ins, by values. -/
namespace PP
open PySem PySem.Spec PyProof.Rows L2

def RelL (K : PySem.W.Frag) (G H : Hp) (σ : L2.St) : List V → List Val → Prop
  | [], [] => True
  | u :: us, a :: as => RelW K G H σ u a ∧ NoBor a ∧ RelL K G H σ us as
  | _, _ => False
theorem Held.relL {K : PySem.W.Frag} {σ : L2.St} {G H : Hp} {ρ : Env} (s : S8 K G H σ ρ) : ∀ {us : List V} {vs as : List Val}, Held K σ G H ρ us vs → resL ρ vs = some as → RelL K G H σ us as
  | [], [], as, _, e => by
    have e' : as = [] := (Option.some.inj e).symm
    subst e'
    trivial
  | u :: us, v :: vs, as, h, e => by
    unfold resL at e
    split at e
    · rename_i a as' e1 e2
      cases e
      have r := res.rel s h.1 e1
      exact ⟨r.1, r.2, Held.relL s h.2.2 e2⟩
    · cases e
  | [], _ :: _, _, h, _ => h.elim
  | _ :: _, [], _, h, _ => h.elim
theorem RelL.one {K : PySem.W.Frag} {G H : Hp} {σ : L2.St} {us : List V} {a : Val} (h : RelL K G H σ us [a]) : ∃ u, us = [u] ∧ RelW K G H σ u a ∧ NoBor a := by
  cases us with
  | nil => exact h.elim
  | cons u us =>
    cases us with
    | nil => exact ⟨u, rfl, h.1, h.2.1⟩
    | cons u2 us => exact h.2.2.elim
abbrev Built := List Val → Option Val
/-- a built-in by values -/
def CbS (f : Value) (op : Built) : Prop :=
  ∀ (X : Cx), X.calm = true → X.A.units + 200 < cLine → ∀ (G H : Hp) (σ : L2.St) (ρ : Env) (us : List V) (as : List Val) (v : Val) (Q : VK), S8 X.K G H σ ρ → RelL X.K G H σ us as → op as = some v →
    (∀ u G' H', PostE X.K σ G H ρ G' H' ρ u v → Q u H') → ∃ r, CallR X f r ∧ r us H Q
def rBi (X : Cx) (f : Value) : List V → Hp → VK → Prop := fun xs H Q => ∃ r, CallR X f r ∧ r xs H Q
theorem cr_bi {X : Cx} {f : Value} : CallR X f (rBi X f) := fun pins s σ H xs us Q I rv ⟨r, hr, w⟩ => hr pins s σ H xs us Q I rv w
def finB (op : Built) (vs : List Val) (ρ : Env) : Option (Rs Val) := match resL ρ vs with
  | some as => match op as with
    | some v => some (.ok v ρ)
    | none => none
  | none => none
def cB (op : Built) (g : EvL) : Ev := fun ρ => bnd (g ρ) fun vs ρ1 => finB op vs ρ1
section
variable {Γ : Gam} {N : List Str} {np : Nat} {sc : Scope}
theorem cB_go {f : Value} {op : Built} {es : List Expr} {g : EvL} (hc : CbS f op) (ha : SndA Γ N sc es g) {X : Cx} {W : WX} (kn : Kn Γ X sc N W) {G H : Hp} {σ : L2.St} {ρ : Env} {Q : VK} (s : S8 X.K G H σ ρ)
    (w : WP (cB op g ρ) (fun v ρ' => ∀ u G' H', PostE X.K σ G H ρ G' H' ρ' u v → Q u H') (ExQ Γ X.K W σ G H ρ)) : tA X es σ H fun vs H1 => rBi X f vs H1 Q := by
  unfold cB at w
  rw [WP_bnd] at w
  refine ha X W kn G H σ ρ _ s (w.mono (fun vs ρ1 w1 us G1 H1 p1 hd hl => ?_) fun _ _ h => h)
  unfold finB at w1
  split at w1
  · rename_i as e
    split at w1
    · rename_i v e2
      exact hc X kn.calm kn.units G1 H1 σ ρ1 us as v Q p1.st (hd.relL p1.st e) e2 fun u G' H' q => w1 u G' H' (p1.transE q)
    · exact w1.elim
  · exact w1.elim
theorem sE_blt {x : String} {id : String} {op : Built} {e : Expr} {es : List Expr} {p pos : Pos} {g : EvL} (hc : CbS (.builtin id) op) (hb : x ∈ Γ.bl) (hg : glB sc (x : Str) = true) (hv : bootBuiltins (x : Str) = some (.builtin id)) (ha : SndA Γ N sc (e :: es) g)
    (hn : (x : Str) ≠ "__name__" := by decide) (hdb : ((x : Str) == ("__debug__" : Str)) = false := by decide) (he : ∀ env, starEach (e :: es) env = (false, eval e env) :: starEach es env := by intro _; rfl) (hpl : ∀ env, (backTo pos (starEach es env)).any (·.1) = false := by intro _; rfl) :
    SndE Γ N sc (.Call (.Name x p) (e :: es) [] pos) (cB op g) := fun X W kn G H σ ρ Q s w =>
  tE_of (pe_callB cr_bi (gl_of kn.sc hg) (kn.bl _ hb) hv (pa_star' (es := e :: es)) hn hdb (he X.env) (hpl X.env)) (cB_go hc ha kn s w)
theorem sE_ty {x : String} {T : String} {op : Built} {e : Expr} {es : List Expr} {p pos : Pos} {g : EvL} (hc : CbS (.type T) op) (hb : x ∈ Γ.bl) (hg : glB sc (x : Str) = true) (hv : bootBuiltins (x : Str) = some (.type T)) (ha : SndA Γ N sc (e :: es) g)
    (hn : (x : Str) ≠ "__name__" := by decide) (hdb : ((x : Str) == ("__debug__" : Str)) = false := by decide) (he : ∀ env, starEach (e :: es) env = (false, eval e env) :: starEach es env := by intro _; rfl) (hpl : ∀ env, (backTo pos (starEach es env)).any (·.1) = false := by intro _; rfl) :
    SndE Γ N sc (.Call (.Name x p) (e :: es) [] pos) (cB op g) := fun X W kn G H σ ρ Q s w =>
  tE_of (pe_callTy cr_bi (gl_of kn.sc hg) (kn.bl _ hb) hv (pa_star' (es := e :: es)) hn hdb (he X.env) (hpl X.env)) (cB_go hc ha kn s w)
end
section
variable {K : PySem.W.Frag} {G H : Hp} {σ : L2.St} {ρ : Env} {u : V} {a : Val} {d : PyData} {ds : List PyData}
/-- what a list or a tuple holds -/
def sOf : Val → Option (List PyData)
  | .dat (.list ds) => some ds
  | .ml ds => some ds
  | .dat (.tuple ds) => some ds
  | _ => none
theorem RelW.sOf (gh : ∀ p o, G p = some o → H p = some o) (r : RelW K G H σ u a) (e : PP.sOf a = some ds) : ∃ b vs, u = .ref b ∧ (SqL K H b vs ∨ SqT K H b vs) ∧ DtAll K G vs ds := by
  unfold PP.sOf at e
  split at e
  · cases e
    obtain ⟨b, vs, e1, h, q⟩ := r.lOf gh rfl
    exact ⟨b, vs, e1, .inl (.inl (.inl h)), q⟩
  · cases e
    obtain ⟨b, vs, e1, h, q⟩ := r.lOf (ds := ds) gh rfl
    exact ⟨b, vs, e1, .inl (.inl (.inl h)), q⟩
  · cases e
    obtain ⟨b, vs, e1, h, _, q⟩ := r.tOf gh
    exact ⟨b, vs, e1, .inr (.inl (.inl h)), q⟩
  · cases e
def intsOf : List PyData → Option (List Int)
  | [] => some []
  | .int i :: ds => match intsOf ds with
    | some is => some (i :: is)
    | none => none
  | _ => none
theorem intsOf_map {ds : List PyData} {is : List Int} (e : intsOf ds = some is) : ds = is.map .int := by
  induction ds generalizing is with
  | nil => cases e; rfl
  | cons d ds ih =>
    unfold intsOf at e
    split at e
    · rename_i h; cases h
    · rename_i i ds' h
      cases h
      split at e
      · rename_i is' e'
        cases e
        rw [ih e', List.map_cons]
      · cases e
    · cases e
theorem intsOf_of (is : List Int) : intsOf (is.map .int) = some is := by
  induction is with
  | nil => rfl
  | cons i is ih => rw [List.map_cons]; unfold intsOf; rw [ih]
theorem DtAll.ints {vs : List V} {is : List Int} (h : DtAll K G vs (is.map .int)) : vs = is.map .int := by
  induction is generalizing vs with
  | nil => cases h; rfl
  | cons i is ih =>
    cases h with
    | cons a b =>
      cases a
      rw [ih b, List.map_cons]
def boolsOf : List PyData → Option (List Bool)
  | [] => some []
  | .bool i :: ds => match boolsOf ds with
    | some is => some (i :: is)
    | none => none
  | _ => none
theorem boolsOf_map {ds : List PyData} {is : List Bool} (e : boolsOf ds = some is) : ds = is.map .bool := by
  induction ds generalizing is with
  | nil => cases e; rfl
  | cons d ds ih =>
    unfold boolsOf at e
    split at e
    · rename_i h; cases h
    · rename_i i ds' h
      cases h
      split at e
      · rename_i is' e'
        cases e
        rw [ih e', List.map_cons]
      · cases e
    · cases e
theorem boolsOf_of (is : List Bool) : boolsOf (is.map .bool) = some is := by
  induction is with
  | nil => rfl
  | cons i is ih => rw [List.map_cons]; unfold boolsOf; rw [ih]
theorem DtAll.bools {vs : List V} {is : List Bool} (h : DtAll K G vs (is.map .bool)) : vs = is.map .bl := by
  induction is generalizing vs with
  | nil => cases h; rfl
  | cons i is ih =>
    cases h with
    | cons a b =>
      cases a
      rw [ih b, List.map_cons]
end
/-! ### len, abs, int, sum, all, any -/
def bLen : Built := fun as => match as with
  | [.dat (.str x)] => if okLen x.length = true then some (.dat (.int x.length)) else none
  | [a] => match sOf a with
    | some ds => some (.dat (.int ds.length))
    | none => none
  | _ => none
theorem cb_len : CbS (.builtin "len") bLen := by
  intro X hc hu G H σ ρ us as v Q s r e q
  unfold bLen at e
  split at e
  · rename_i x
    obtain ⟨u, rfl, rw1, _⟩ := r.one
    rw [rw1.str]
    split at e
    · rename_i ho
      cases e
      exact ⟨_, call_len, .str x, x.length, rfl, ⟨okLen.line ho, rfl⟩, q _ G H (s.postX.dat (.int _))⟩
    · cases e
  · rename_i a _
    obtain ⟨u, rfl, rw1, _⟩ := r.one
    split at e
    · rename_i ds e1
      cases e
      obtain ⟨b, vs, rfl, h, qa⟩ := rw1.sOf s.gh e1
      refine ⟨_, call_len_seq, b, vs, rfl, h, ?_⟩
      rw [qa.len]
      exact q _ G H (s.postX.dat (.int _))
    · cases e
  · cases e
def bAbs : Built := fun as => match as with
  | [.dat (.int i)] => some (.dat (.int (if i < 0 then -i else i)))
  | _ => none
theorem cb_abs : CbS (.builtin "abs") bAbs := by
  intro X hc hu G H σ ρ us as v Q s r e q
  unfold bAbs at e
  split at e
  · rename_i i
    cases e
    obtain ⟨u, rfl, rw1, _⟩ := r.one
    rw [rw1.int]
    exact ⟨_, call_abs, i, rfl, q _ G H (s.postX.dat (.int _))⟩
  · cases e
def bInt : Built := fun as => match as with
  | [.dat (.int i)] => some (.dat (.int i))
  | [.dat (.bool b)] => some (.dat (.int (if b then 1 else 0)))
  | _ => none
theorem cb_int : CbS (.type "int") bInt := by
  intro X hc hu G H σ ρ us as v Q s r e q
  unfold bInt at e
  split at e
  · rename_i i
    cases e
    obtain ⟨u, rfl, rw1, _⟩ := r.one
    rw [rw1.int]
    exact ⟨_, call_int1, .inl ⟨i, rfl, q _ G H (s.postX.dat (.int _))⟩⟩
  · rename_i b
    cases e
    obtain ⟨u, rfl, rw1, _⟩ := r.one
    rw [rw1.bl]
    exact ⟨_, call_int1, .inr ⟨b, rfl, q _ G H (s.postX.dat (.int _))⟩⟩
  · cases e
section
variable {prog : Program} {w : World} {A : Around} {E : Value → Shared → Prop} {s : Shared}
theorem sum_tup {l : Addr} {its : List Value} {ns : List Int} {Q : Value → Shared → Prop} (hh : A.handled = none) (hl : s.heap.IsTuple l its.toArray) (hi : IntsAre its ns)
    (h : ∀ h' tk t', (∀ b o, s.heap.get? b = some o → h'.get? b = some o) → Q (.int ns.sum t') { s with heap := h', toks := tk }) : wpAny (model prog w) A (call (.builtin "sum") [.ref l]) Q E s := by
  obtain ⟨xs, e⟩ := hi.allInts.items
  have hn : numsOf (intItems xs).toList = ns := by rw [← e]; exact hi.numsOf
  rw [nums_intItems] at hn
  rw [e] at hl
  have hlt : l < s.heap.objs.size := by obtain ⟨_, z, _⟩ := hl; exact Heap.lt_size z
  refine call_sum_walkG (wpAny_pyIter_tuple hl ?_)
  have hfp : ∀ b ∈ [s.heap.objs.size, l], b < (s.heap.push { cls := .type "tuple_iterator", data := .fields #[.ref l, .int 0 0] }).objs.size := fun b hb => by
    rw [Heap.size_push]
    rcases List.mem_cons.mp hb with z | hb
    · rw [z]; exact Nat.lt_succ_self _
    · rcases List.mem_cons.mp hb with z | hb
      · rw [z]; exact Nat.lt_succ_of_lt hlt
      · cases hb
  refine ⟨_, _, _, _, _, _, numAt xs, rfl, Walks.tuple (A := A.in1) hh s.heap.objs.size l (Nat.ne_of_lt hlt) (intItems xs), ⟨⟨_, Heap.get?_push_size _ rfl, rfl, rfl⟩, hl.push _⟩, hfp, fun _ _ => intItems_at, fun h' tk t' hk => ?_⟩
  have keep : ∀ b o, s.heap.get? b = some o → h'.get? b = some o := fun b o z => hk b o (by simpa using Nat.ne_of_lt (Heap.lt_size z)) (Heap.get?_push_of_some _ z)
  have z := h h' tk t' keep
  have e2 : preSum (numAt xs) (intItems xs).size = ns.sum := by
    have : (intItems xs).size = xs.size := by simp [intItems]
    rw [this, preSum_eq, List.take_of_length_le (by simp), hn]
  rw [e2]
  exact z
end
theorem cr_sumT {X : Cx} (hc : X.calm = true) : CallR X (.builtin "sum") fun vs H Q => ∃ (a : Addr) (ns : List Int), vs = [V.ref a] ∧ SqT X.K H a (ns.map V.int) ∧ Q (.int ns.sum) H := by
  intro pins st σ H vs us Q I r ⟨a, ns, e, hs, q⟩
  subst e
  obtain ⟨its, rv, hl, _⟩ := I.tuple hs
  rw [Vals.ref1 r]
  exact sum_tup (I.ok.hd hc) hl rv.ints fun h' tk t' hk => ⟨.int _, H, I.kept hk, ⟨_, rfl⟩, q⟩
def bSum : Built := fun as => match as with
  | [a] => match sOf a with
    | some ds => match intsOf ds with
      | some is => some (.dat (.int is.sum))
      | none => none
    | none => none
  | _ => none
theorem cb_sum : CbS (.builtin "sum") bSum := by
  intro X hc hu G H σ ρ us as v Q s r e q
  unfold bSum at e
  split at e
  · rename_i a
    obtain ⟨u, rfl, rw1, _⟩ := r.one
    split at e
    · rename_i ds e1
      split at e
      · rename_i is e2
        cases e
        obtain ⟨b, vs, rfl, h, qa⟩ := rw1.sOf s.gh e1
        rw [intsOf_map e2] at qa
        rw [qa.ints] at h
        rcases h with h | h
        · exact ⟨_, cr_sum hc, b, is, rfl, h, q _ G H (s.postX.dat (.int _))⟩
        · exact ⟨_, cr_sumT hc, b, is, rfl, h, q _ G H (s.postX.dat (.int _))⟩
      · cases e
    · cases e
  · cases e
def bAll (op : List Bool → Bool) : Built := fun as => match as with
  | [a] => match lOf a with
    | some ds => match boolsOf ds with
      | some is => some (.dat (.bool (op is)))
      | none => none
    | none => none
  | _ => none
theorem cb_all : CbS (.builtin "all") (bAll fun bs => bs.all id) := by
  intro X hc hu G H σ ρ us as v Q s r e q
  unfold bAll at e
  split at e
  · rename_i a
    obtain ⟨u, rfl, rw1, _⟩ := r.one
    split at e
    · rename_i ds e1
      split at e
      · rename_i is e2
        cases e
        obtain ⟨b, vs, rfl, h, qa⟩ := rw1.lOf s.gh e1
        rw [boolsOf_map e2] at qa
        rw [qa.bools] at h
        exact ⟨_, cr_all hc, b, is, rfl, .inl (.inl h), q _ G H (s.postX.dat (.bl _))⟩
      · cases e
    · cases e
  · cases e
theorem cb_any : CbS (.builtin "any") (bAll fun bs => bs.any id) := by
  intro X hc hu G H σ ρ us as v Q s r e q
  unfold bAll at e
  split at e
  · rename_i a
    obtain ⟨u, rfl, rw1, _⟩ := r.one
    split at e
    · rename_i ds e1
      split at e
      · rename_i is e2
        cases e
        obtain ⟨b, vs, rfl, h, qa⟩ := rw1.lOf s.gh e1
        rw [boolsOf_map e2] at qa
        rw [qa.bools] at h
        exact ⟨_, cr_any hc, b, is, rfl, .inl (.inl h), q _ G H (s.postX.dat (.bl _))⟩
      · cases e
    · cases e
  · cases e
/-! ### tuple, list -/
def bTup : Built := fun as => match as with
  | [.dat (.tuple ds)] => some (.dat (.tuple ds))
  | [a] => match lOf a with
    | some ds => some (.dat (.tuple ds))
    | none => none
  | _ => none
theorem S8.pushX {K : PySem.W.Frag} {G H : Hp} {σ : L2.St} {ρ : Env} (s : S8 K G H σ ρ) {p : Addr} {o : HO} (np : H p = none) : PostX K σ G H ρ (upd G p o) (upd H p o) ρ := (New.push np).post s
theorem cb_tup : CbS (.type "tuple") bTup := by
  intro X hc hu G H σ ρ us as v Q s r e q
  unfold bTup at e
  split at e
  · rename_i ds
    cases e
    obtain ⟨u, rfl, rw1, _⟩ := r.one
    obtain ⟨b, vs, rfl, h, g, qa⟩ := rw1.tOf s.gh
    exact ⟨_, call_tuple_of, b, vs, rfl, .inr ⟨.inl (.inl h), q _ G H (s.postX.dat (.tup g qa))⟩⟩
  · rename_i a _
    obtain ⟨u, rfl, rw1, _⟩ := r.one
    split at e
    · rename_i ds e1
      cases e
      obtain ⟨b, vs, rfl, h, qa⟩ := rw1.lOf s.gh e1
      refine ⟨_, call_tuple_of, b, vs, rfl, .inl ⟨.inl (.inl h), fun z hz => ?_⟩⟩
      have px := s.pushX (o := .tup vs) hz
      exact q _ _ _ (px.dat (.tup upd_same (qa.mono px.ext.gg)))
    · cases e
  · cases e
def bLst : Built := fun as => match as with
  | [a] => match sOf a with
    | some ds => some (.dat (.list ds))
    | none => none
  | _ => none
theorem cb_lst : CbS (.type "list") bLst := by
  intro X hc hu G H σ ρ us as v Q s r e q
  unfold bLst at e
  split at e
  · rename_i a
    obtain ⟨u, rfl, rw1, _⟩ := r.one
    split at e
    · rename_i ds e1
      cases e
      obtain ⟨b, vs, rfl, h, qa⟩ := rw1.sOf s.gh e1
      refine ⟨_, call_list_of, b, vs, rfl, h, fun z hz => ?_⟩
      have px := s.pushX (o := .lst vs) hz
      exact q _ _ _ (px.dat (.lst upd_same (qa.mono px.ext.gg)))
    · cases e
  · cases e
end PP

end
section
set_option maxHeartbeats 1000000
set_option Elab.async false
set_option linter.all false
set_option maxRecDepth 100000
/-! PPm: the pure layer: isinstance, subscripts, slices, order of tuples, constants' tuples. -/
namespace PP
open PySem PySem.Spec PyProof.Rows L2

/-! ### isinstance -/
def tyN : Val → Option String
  | .dat .none => some "NoneType"
  | .dat (.bool _) => some "bool"
  | .dat (.int _) => some "int"
  | .dat (.str _) => some "str"
  | .dat (.list _) => some "list"
  | .dat (.tuple _) => some "tuple"
  | .ml _ => some "list"
  | .mk _ => some "dict"
  | .mt _ => some "dict"
  | _ => none
theorem RelW.tyN {K : PySem.W.Frag} {G H : Hp} {σ : L2.St} {u : V} {a : Val} {n : String} (gh : ∀ p o, G p = some o → H p = some o) (r : RelW K G H σ u a) (e : PP.tyN a = some n) : TyX K H u (.type n) := by
  unfold PP.tyN at e
  split at e <;> first | cases e | skip
  · cases (show Dt K G u .none from r); exact .base .non
  · rw [r.bl]; exact .base (.bl _)
  · rw [r.int]; exact .base (.int _)
  · rw [r.str]; exact .base (.str _)
  · obtain ⟨b, vs, rfl, h, _⟩ := r.lOf gh rfl; exact .base (.lst h)
  · obtain ⟨b, vs, rfl, h, _⟩ := r.tOf gh; exact .base (.tup h)
  · obtain ⟨b, vs, rfl, _, h, _⟩ := r; exact .base (.lst h)
  · obtain ⟨b, vs, rfl, _, h, _⟩ := r; exact .base (.dK h)
  · obtain ⟨b, vs, rfl, _, h, _⟩ := r; exact .base (.dT h)
def finIs (T : String) (v : Val) (ρ : Env) : Option (Rs Val) := match res ρ v with
  | some a => match tyN a with
    | some n => match kitB n T with
      | some b => some (.ok (.dat (.bool b)) ρ)
      | none => none
    | none => none
  | none => none
def cIs (T : String) (f : Ev) : Ev := fun ρ => bnd (f ρ) fun v ρ1 => finIs T v ρ1
section
variable {Γ : Gam} {N : List Str} {np : Nat} {sc : Scope}
theorem sE_is {T : String} {e : Expr} {p p2 pos : Pos} {f : Ev} (hb : "isinstance" ∈ Γ.bl) (hT : T ∈ Γ.bl) (hg : glB sc ("isinstance" : Str) = true) (hg2 : glB sc (T : Str) = true) (hv : bootBuiltins (T : Str) = some (.type T)) (he : SndE Γ N sc e f)
    (hn : (T : Str) ≠ "__name__" := by decide) (hdb : ((T : Str) == ("__debug__" : Str)) = false := by decide)
    (h1 : ∀ env, starEach [e, .Name T p2] env = (false, eval e env) :: starEach [.Name T p2] env := by intro _; rfl) (h2 : ∀ env, starEach [.Name T p2] env = (false, eval (.Name T p2) env) :: starEach [] env := by intro _; rfl) :
    SndE Γ N sc (.Call (.Name "isinstance" p) [e, .Name T p2] [] pos) (cIs T f) := by
  intro X W kn G H σ ρ Q s w
  refine tE_of (pe_callB (call_isi (X := X)) (gl_of kn.sc hg) (kn.bl _ hb) boot_isinstance (pa_cons pe_star (pa_cons (pe_bltn (v := .ty T) (gl_of kn.sc hg2) (kn.bl _ hT) hv rfl hn hdb) pa_nil (h2 X.env)) (h1 X.env)) (by decide) (by decide) (h1 X.env) (by rw [h2 X.env]; rfl)) ?_
  refine (he.go kn s.postX w).mono fun u H1 ⟨G1, ρ1, v, pe, p1, w1⟩ => ?_
  unfold finIs at w1
  split at w1
  · rename_i a ea
    have r := res.rel p1.st pe.rv ea
    split at w1
    · rename_i n en
      split at w1
      · rename_i b eb
        exact ⟨u, .ty T, .type n, .type T, b, rfl, .ty T, r.1.tyN p1.st.gh en, kit_ty eb, w1 _ G1 H1 (p1.dat (.bl b))⟩
      · exact w1.elim
    · exact w1.elim
  · exact w1.elim
/-! ### subscripts -/
def IxS (op : Op2) : Prop := ∀ X : Cx, X.calm = true → X.A.units + 200 < cLine → IxR X (rOp X.K op)
theorem sE_ix {a b : Expr} {pos : Pos} {fa fb : Ev} {op : Op2} (ho : IxS op) (ha : SndE Γ N sc a fa) (hb : SndE Γ N sc b fb) (hs : PlainIx b := by intro _ _; rfl) : SndE Γ N sc (.Subscript a b pos) (cBin op fa fb) := by
  intro X W kn G H σ ρ Q s w
  refine tE_of (pe_ix (ho X kn.calm kn.units) pe_star pe_star hs) ?_
  refine (ha.go kn s.postX w).mono fun x H1 ⟨G1, ρ1, v1, pe1, p1, w1⟩ => ?_
  refine (hb.go kn p1 w1).mono fun y H2 ⟨G2, ρ2, v2, pe2, p2, w2⟩ => ?_
  exact op_go p2 (pe1.keep pe2.x).rv pe2.rv w2 fun z d G' H' nw dt w3 => w3 z G' H' ((p2.trans (nw.post p2.st)).dat dt)
def oIx : Op2 := fun a b => match b with
  | .dat (.int i) => match sOf a with
    | some ds => atI ds i
    | none => none
  | _ => none
theorem DtAll.atI {K : PySem.W.Frag} {G : Hp} {us : List V} {ds : List PyData} (h : DtAll K G us ds) {i : Int} {d : PyData} (e : L2.atI ds i = some d) : ∃ u, L2.atI us i = some u ∧ Dt K G u d := by
  unfold L2.atI at e ⊢
  rw [h.len]
  cases hj : ixN ds.length i with
  | none => rw [hj] at e; cases e
  | some j =>
    rw [hj] at e
    exact h.get (i := j) e
theorem ix_any : IxS oIx := by
  intro X hc hu value slice pins s σ H x y v u Q I rx ry ⟨G, σ', a, b, d, gh, ra, rb, na, nb, e, q⟩ hs
  unfold oIx at e
  split at e
  · rename_i i
    split at e
    · rename_i ds ed
      rw [rb.int] at ry
      obtain ⟨p, vs, rfl, h, qa⟩ := ra.sOf gh ed
      obtain ⟨z, ez, dz⟩ := qa.atI e
      have fin := q z G H New.refl dz
      refine ix_seq value slice pins s σ H _ (.int i) v u Q I rx ry ?_ hs
      rcases h with h | h
      · exact .inl ⟨p, vs, i, z, rfl, rfl, h, ez, fin⟩
      · exact .inr (.inl ⟨p, vs, i, z, rfl, rfl, h, ez, fin⟩)
    · cases e
  · cases e
/-! ### slices -/
def cutD (xs : List PyData) (lo hi : Option Int) : List PyData := (xs.drop (HT.sIx xs.length 0 lo)).take (HT.sIx xs.length xs.length hi - HT.sIx xs.length 0 lo)
theorem DtAll.drop {K : PySem.W.Frag} {G : Hp} : ∀ {us : List V} {ds : List PyData}, DtAll K G us ds → ∀ n, DtAll K G (us.drop n) (ds.drop n)
  | _, _, h, 0 => h
  | _, _, .nil, n + 1 => .nil
  | _, _, .cons a b, n + 1 => DtAll.drop b n
theorem DtAll.take {K : PySem.W.Frag} {G : Hp} : ∀ {us : List V} {ds : List PyData}, DtAll K G us ds → ∀ n, DtAll K G (us.take n) (ds.take n)
  | _, _, h, 0 => .nil
  | _, _, .nil, n + 1 => .nil
  | _, _, .cons a b, n + 1 => .cons a (DtAll.take b n)
theorem DtAll.cut {K : PySem.W.Frag} {G : Hp} {us : List V} {ds : List PyData} (h : DtAll K G us ds) (lo hi : Option Int) : DtAll K G (cutV us lo hi) (cutD ds lo hi) := by
  unfold cutV cutD
  rw [h.len]
  exact (h.drop _).take _
abbrev EvO := Env → Option (Rs (Option Int))
def tO (X : Cx) (e : Option Expr) : TO := fun σ H Q => ∀ (pins : List (Addr × Obj)) (s : Shared), Inv X pins σ H s → wpAny (model X.prog X.w) X.A (evalPart e X.env) (fun u s' => ∃ o H', Inv X pins σ H' s' ∧ IsPart u o ∧ Q o H') X.xe s
theorem po_star {X : Cx} {e : Option Expr} : PO X e (tO X e) := ⟨fun pins s _ _ _ I h => h pins s I⟩
theorem tO_of {X : Cx} {e : Option Expr} {t : TO} (p : PO X e t) {σ : L2.St} {H : Hp} {Q : Option Int → Hp → Prop} (h : t σ H Q) : tO X e σ H Q := fun pins s I => p.run pins s σ H Q I h
theorem tO.mono {X : Cx} {e : Option Expr} {σ : L2.St} {H : Hp} {Q Q' : Option Int → Hp → Prop} (h : tO X e σ H Q) (q : ∀ v H', Q v H' → Q' v H') : tO X e σ H Q' :=
  fun pins s I => thn (h pins s I) fun _ _ ⟨o, H', I', r, z⟩ => ⟨o, H', I', r, q o H' z⟩
def SndO (Γ : Gam) (N : List Str) (sc : Scope) (e : Option Expr) (f : EvO) : Prop :=
  ∀ (X : Cx) (W : WX), Kn Γ X sc N W → ∀ (G H : Hp) (σ : L2.St) (ρ : Env) (Q : Option Int → Hp → Prop), S8 X.K G H σ ρ →
    WP (f ρ) (fun o ρ' => ∀ G' H', PostX X.K σ G H ρ G' H' ρ' → Q o H') (ExQ Γ X.K W σ G H ρ) → tO X e σ H Q
theorem SndO.go {e : Option Expr} {f : EvO} (h : SndO Γ N sc e f) {X : Cx} {W : WX} (kn : Kn Γ X sc N W) {G0 H0 G H : Hp} {σ : L2.St} {ρ0 ρ : Env} {α : Type} {g : Option Int → Env → Option (Rs α)} {q : α → Env → Prop}
    (p : PostX X.K σ G0 H0 ρ0 G H ρ) (w : WP (bnd (f ρ) g) q (ExQ Γ X.K W σ G0 H0 ρ0)) :
    tO X e σ H (fun b H1 => ∃ G1 ρ1, PostX X.K σ G H ρ G1 H1 ρ1 ∧ PostX X.K σ G0 H0 ρ0 G1 H1 ρ1 ∧ WP (g b ρ1) q (ExQ Γ X.K W σ G0 H0 ρ0)) := by
  refine h X W kn G H σ ρ _ p.st ?_
  rw [WP_bnd] at w
  exact w.mono (fun v ρ1 hw G1 H1 pe => ⟨G1, ρ1, pe, p.trans pe, hw⟩) fun x ρ' hx => hx.step p
def oNone : EvO := fun ρ => some (.ok none ρ)
def asI (v : Val) (ρ : Env) : Option (Rs (Option Int)) := match v with
  | .dat (.int i) => some (.ok (some i) ρ)
  | _ => none
def oSome (f : Ev) : EvO := fun ρ => bnd (f ρ) asI
theorem sO_none : SndO Γ N sc none oNone := fun X W kn G H σ ρ Q s w => tO_of po_none (w G H s.postX)
theorem sO_some {e : Expr} {f : Ev} (h : SndE Γ N sc e f) : SndO Γ N sc (some e) (oSome f) := by
  intro X W kn G H σ ρ Q s w
  refine tO_of (po_some pe_star) ?_
  refine (h.go kn s.postX w).mono fun u H1 ⟨G1, ρ1, v, pe, p1, w1⟩ => ?_
  unfold asI at w1
  split at w1
  · rename_i i
    exact ⟨i, (show RelW X.K G1 H1 σ u (.dat (.int i)) from pe.rv).int, w1 G1 H1 p1⟩
  · exact w1.elim
def finSl (v : Val) (lo hi : Option Int) (ρ : Env) : Option (Rs Val) := match res ρ v with
  | some (.dat (.tuple ds)) => some (.ok (.dat (.tuple (cutD ds lo hi))) ρ)
  | some a => match lOf a with
    | some ds => some (.ok (.dat (.list (cutD ds lo hi))) ρ)
    | none => match a with
      | .scr ns => some (.ok (.dat (.list (cutD (ns.map .int) lo hi))) ρ)
      | _ => none
  | none => none
def cSl (f : Ev) (lo hi : EvO) : Ev := fun ρ => bnd (f ρ) fun v ρ1 => bnd (lo ρ1) fun l ρ2 => bnd (hi ρ2) fun h ρ3 => finSl v l h ρ3
theorem cut_whole {xs : List PyData} {lo hi : Option Int} (h1 : HT.sIx xs.length 0 lo = 0) (h2 : HT.sIx xs.length xs.length hi = xs.length) : cutD xs lo hi = xs := by
  unfold cutD
  rw [h1, h2]
  simp
theorem DtAll.ofInts {K : PySem.W.Frag} {G : Hp} : ∀ ns : List Int, DtAll K G (ns.map .int) (ns.map .int)
  | [] => .nil
  | n :: ns => .cons (.int n) (DtAll.ofInts ns)
theorem sE_sl {e : Expr} {lo hi : Option Expr} {p2 pos : Pos} {f : Ev} {fl fh : EvO} (he : SndE Γ N sc e f) (hl : SndO Γ N sc lo fl) (hh : SndO Γ N sc hi fh) : SndE Γ N sc (.Subscript e (.Slice lo hi none p2) pos) (cSl f fl fh) := by
  intro X W kn G H σ ρ Q s w
  refine tE_of (pe_slice (sl_list.or sl_tupA) pe_star po_star po_star) ?_
  refine (he.go kn s.postX w).mono fun x H1 ⟨G1, ρ1, v, pe1, p1, w1⟩ => ?_
  refine (hl.go kn p1 w1).mono fun l H2 ⟨G2, ρ2, pe2, p2, w2⟩ => ?_
  refine (hh.go kn p2 w2).mono fun u H3 ⟨G3, ρ3, pe3, p3, w3⟩ => ?_
  have rx := (pe1.keep (pe2.trans pe3)).rv
  unfold finSl at w3
  split at w3
  · rename_i ds ea
    have r := (res.rel p3.st rx ea).1
    obtain ⟨b, vs, rfl, h, g, qa⟩ := r.tOf p3.st.gh
    refine .inr ⟨b, vs, rfl, .inl (.inl h), fun hw => ?_, fun _ z hz => ?_⟩
    · rw [qa.len] at hw
      rw [cut_whole hw.1 hw.2] at w3
      exact w3 _ G3 H3 (p3.dat (.tup g qa))
    · have px := p3.st.pushX (o := .tup (cutV vs l u)) hz
      exact w3 _ _ _ ((p3.trans px).dat (.tup upd_same ((qa.cut l u).mono px.ext.gg)))
  · rename_i a _ ea
    have r := (res.rel p3.st rx ea).1
    split at w3
    · rename_i ds ed
      obtain ⟨b, vs, rfl, h, qa⟩ := r.lOf p3.st.gh ed
      refine .inl ⟨b, vs, rfl, .inl (.inl h), fun z hz => ?_⟩
      have px := p3.st.pushX (o := .lst (cutV vs l u)) hz
      exact w3 _ _ _ ((p3.trans px).dat (.lst upd_same ((qa.cut l u).mono px.ext.gg)))
    · split at w3
      · rename_i ns _ _
        obtain ⟨b, rfl, h⟩ := r
        refine .inl ⟨b, _, rfl, SqL.mono p3.st.gh h, fun z hz => ?_⟩
        have px := p3.st.pushX (o := .lst (cutV (ns.map .int) l u)) hz
        exact w3 _ _ _ ((p3.trans px).dat (.lst upd_same ((DtAll.ofInts ns).cut l u)))
      · exact w3.elim
  · exact w3.elim
/-! ### x in a tuple of constants -/
def cInK (neg : Bool) (ds : List PyData) (f : Ev) : Ev := fun ρ => bnd (f ρ) fun v ρ1 => match res ρ1 v with
  | some a => match dOf a with
    | some d => if dptA ds d = true then some (.ok (.dat (.bool (neg ^^ ds.any fun z => PyData.eqv z d))) ρ1) else none
    | none => none
  | none => none
theorem sE_inK {x : String} {ds : List PyData} {e : Expr} {p pos : Pos} {f : Ev} {o : CmpOp} {neg : Bool} (hoo : o = .In ∧ neg = false ∨ o = .NotIn ∧ neg = true) (hg : glB sc (x : Str) = true) (hm : (x, ds) ∈ Γ.kt) (he : SndE Γ N sc e f) (hbm : behindInMarks o (.Name (x : Str) p) = false)
    (hd : ((x : Str) == ("__debug__" : Str)) = false := by decide) : SndE Γ N sc (.Compare e [o] [.Name x p] pos) (cInK neg ds f) := by
  intro X W kn G H σ ρ Q s w pins st I
  obtain ⟨ad, xs, hmg, hsq, hdt⟩ := kn.kt _ hm
  have go : tE X e σ H fun u H1 => (tC (.ref ad)) σ H1 fun y H2 => ∀ (pins : List (Addr × Obj)) (s : Shared) (v u' : Value), Inv X pins σ H2 s → RelV u v → RelV y u' → wpAny (model X.prog X.w) X.A (compareOp o v u') (EP X pins σ Q) X.xe s := by
    refine (he.go kn s.postX w).mono fun u H1 ⟨G1, ρ1, v, pe, p1, w1⟩ => ?_
    show ∀ (pins : List (Addr × Obj)) (s : Shared) (v u' : Value), Inv X pins σ H1 s → RelV u v → RelV (.ref ad) u' → wpAny (model X.prog X.w) X.A (compareOp o v u') (EP X pins σ Q) X.xe s
    intro pins st vv uu I rx ry
    split at w1
    · rename_i a ea
      have r := (res.rel p1.st pe.rv ea).1
      split at w1
      · rename_i d ed
        split at w1
        · rename_i hdp
          have r1 := r.dOf p1.st.gh ed
          obtain ⟨as, q1⟩ := Dp.reads I d u vv r1.1 rx
          obtain ⟨bs, q2⟩ := Dp.reads I (.tuple ds) (.ref ad) uu (.tup (SqT.mono (fun _ o z => nomatch (show (none : Option HO) = some o from z)) hsq) (hdt H1).dp) ry
          have hdp' := of_decide_eq_true hdp
          have hu := kn.units
          have lay : PyData.canLayAll0 ds = true := (hdt H1).lay
          have fin := w1 _ G1 H1 (p1.dat (.bl _))
          rcases hoo with ⟨rfl, rfl⟩ | ⟨rfl, rfl⟩
          · exact SeqAt.in_tuple_reads q2 q1 lay r1.2 (by omega) ⟨.bl _, H1, I, rfl, by simpa using fin⟩
          · exact SeqAt.notIn_tuple_reads q2 q1 lay r1.2 (by omega) ⟨.bl _, H1, I, rfl, by simpa using fin⟩
        · exact w1.elim
      · exact w1.elim
    · exact w1.elim
  exact wpAny_Compare1 (binT pe_star (pe_glob (v := .ref ad) (gl_of kn.sc hg) hmg rfl hd) I go fun v u s2 x y H2 I2 rx ry q => q pins s2 v u I2 rx ry) hbm
end
theorem RelL.two {K : PySem.W.Frag} {G H : Hp} {σ : L2.St} {us : List V} {a b : Val} (h : RelL K G H σ us [a, b]) : ∃ u v, us = [u, v] ∧ RelW K G H σ u a ∧ NoBor a ∧ RelW K G H σ v b ∧ NoBor b := by
  cases us with
  | nil => exact h.elim
  | cons u us =>
    cases us with
    | nil => exact h.2.2.elim
    | cons u2 us =>
      cases us with
      | nil => exact ⟨u, u2, rfl, h.1, h.2.1, h.2.2.1, h.2.2.2.1⟩
      | cons u3 us => exact h.2.2.2.2.elim
end PP

end
section
set_option maxHeartbeats 1000000
set_option Elab.async false
set_option linter.all false
set_option maxRecDepth 100000
/-! PPn: the pure layer: dicts; lists and dicts changed in place; order of tuples. -/
namespace PP
open PySem PySem.Spec PyProof.Rows L2

/-! ### dicts by values -/
section
variable {κ : Type} [DecidableEq κ]
def kvGet (kvs : List (κ × PyData)) (k : κ) : Option PyData := (kvs.find? fun kv => decide (kv.1 = k)).map (·.2)
def kvPut (kvs : List (κ × PyData)) (k : κ) (v : PyData) : List (κ × PyData) := if (kvs.any fun kv => decide (kv.1 = k)) = true then kvs.map (fun kv => if kv.1 = k then (kv.1, v) else kv) else kvs ++ [(k, v)]
def KvR (K : PySem.W.Frag) (G : Hp) (ks : List (κ × V)) (kvs : List (κ × PyData)) : Prop := Paired (fun (p : κ × V) (q : κ × PyData) => p.1 = q.1 ∧ Dt K G p.2 q.2) ks kvs
theorem KvR.get {K : PySem.W.Frag} {G : Hp} {ks : List (κ × V)} {kvs : List (κ × PyData)} (h : KvR K G ks kvs) (k : κ) : (valV ks k = none ∧ kvGet kvs k = none) ∨ ∃ v d, valV ks k = some v ∧ kvGet kvs k = some d ∧ Dt K G v d := by
  unfold KvR at h
  induction h with
  | nil => exact .inl ⟨rfl, rfl⟩
  | @cons p q ps qs a b ih =>
    by_cases e : p.1 = k
    · exact .inr ⟨p.2, q.2, valV_pos e, by unfold kvGet; rw [List.find?_cons_of_pos (by simpa using a.1 ▸ e)]; rfl, a.2⟩
    · rw [valV_neg e]
      have e2 : kvGet (q :: qs) k = kvGet qs k := by
        unfold kvGet
        rw [List.find?_cons_of_neg (by simpa using a.1 ▸ e)]
      rw [e2]
      exact ih
theorem KvR.put {K : PySem.W.Frag} {G : Hp} {ks : List (κ × V)} {kvs : List (κ × PyData)} (h : KvR K G ks kvs) (k : κ) {v : V} {d : PyData} (hv : Dt K G v d) : KvR K G (putK ks k v) (kvPut kvs k d) := by
  have hany : (ks.any fun kv => decide (kv.1 = k)) = (kvs.any fun kv => decide (kv.1 = k)) := by
    unfold KvR at h
    induction h with
    | nil => rfl
    | cons a b ih => rw [List.any_cons, List.any_cons, ih, a.1]
  have hmap : KvR K G (ks.map fun kv => if kv.1 = k then (kv.1, v) else kv) (kvs.map fun kv => if kv.1 = k then (kv.1, d) else kv) := by
    unfold KvR at h ⊢
    clear hany
    induction h with
    | nil => exact .nil
    | @cons p q ps qs a b ih =>
      rw [List.map_cons, List.map_cons]
      refine .cons ?_ ih
      by_cases e : p.1 = k
      · rw [if_pos e, if_pos (a.1 ▸ e)]; exact ⟨a.1, hv⟩
      · rw [if_neg e, if_neg (a.1 ▸ e)]; exact a
  unfold putK kvPut
  rw [hany]
  split
  · exact hmap
  · rename_i hne
    unfold KvR at h ⊢
    clear hany hmap hne
    induction h with
    | nil => exact .cons ⟨rfl, hv⟩ .nil
    | cons a b ih => exact .cons a ih
theorem KvR.len {K : PySem.W.Frag} {G : Hp} {ks : List (κ × V)} {kvs : List (κ × PyData)} (h : KvR K G ks kvs) : ks.length = kvs.length := by
  unfold KvR at h
  induction h with
  | nil => rfl
  | cons a b ih => rw [List.length_cons, List.length_cons, ih]
end
def keyD : PyData → Option Key
  | .int i => some (.inl i)
  | .str x => some (.inr x)
  | _ => none
def keysD : List PyData → Option (List Key)
  | [] => some []
  | d :: ds => match keyD d, keysD ds with
    | some k, some ks => some (k :: ks)
    | _, _ => none
def kD : Key → PyData
  | .inl i => .int i
  | .inr x => .str x
section
variable {K : PySem.W.Frag} {G H : Hp} {σ : L2.St} {u y : V} {a : Val} {d : PyData}
theorem Dt.key {k : Key} (h : Dt K G u d) (e : keyD d = some k) : u = kV k := by
  unfold keyD at e
  split at e <;> cases e
  · cases h; rfl
  · cases h; rfl
theorem DtAll.keys : ∀ {us : List V} {ds : List PyData} {ks : List Key}, DtAll K G us ds → keysD ds = some ks → us = ks.map kV
  | _, _, ks, .nil, e => by
    have e' : ks = [] := (Option.some.inj e).symm
    subst e'
    rfl
  | _, _, ks, .cons x xs, e => by
    unfold keysD at e
    split at e
    · rename_i k ks' e1 e2
      cases e
      rw [x.key e1, DtAll.keys xs e2, List.map_cons]
    · cases e
/-- what a dict holds at a key -/
def kGet (a : Val) (d : PyData) : Option (Option PyData) := match a, d with
  | .mk kvs, .int i => some (kvGet kvs (.inl i))
  | .mk kvs, .str x => some (kvGet kvs (.inr x))
  | .mt kvs, .tuple ds => match keysD ds with
    | some ks => some (kvGet kvs ks)
    | none => none
  | _, _ => none
theorem RelW.kGet {o : Option PyData} (s : ∀ p o, G p = some o → H p = some o) (ra : RelW K G H σ u a) (rd : Dt K G y d) (e : PP.kGet a d = some o) : ∃ b r, u = .ref b ∧ DGet H b y r ∧ IsD H b ∧ ((r = none ∧ o = none) ∨ ∃ v z, r = some v ∧ o = some z ∧ Dt K G v z) := by
  unfold PP.kGet at e
  split at e
  · rename_i kvs i
    cases e
    obtain ⟨b, ks, rfl, g, h, q⟩ := ra
    cases rd
    exact ⟨b, _, rfl, DGet.k (k := .inl i) h, .inl ⟨ks, .inl h⟩, (KvR.get q (.inl i))⟩
  · rename_i kvs x
    cases e
    obtain ⟨b, ks, rfl, g, h, q⟩ := ra
    cases rd
    exact ⟨b, _, rfl, DGet.k (k := .inr x) h, .inl ⟨ks, .inl h⟩, (KvR.get q (.inr x))⟩
  · rename_i kvs ds
    split at e
    · rename_i ks ek
      cases e
      obtain ⟨b, kl, rfl, g, h, q⟩ := ra
      cases rd with
      | tup hs ha =>
        rw [ha.keys ek] at hs
        exact ⟨b, _, rfl, DGet.t (k := ks) h (s _ _ hs), .inr ⟨kl, .inl h⟩, (KvR.get q ks)⟩
    · cases e
  · cases e
end
def oInD (neg : Bool) : Op2 := fun a b => match a with
  | .dat d => match kGet b d with
    | some o => some (.bool (neg ^^ o.isSome))
    | none => none
  | _ => none
theorem oInD_inv {neg : Bool} {a b : Val} {z : PyData} (e : oInD neg a b = some z) : ∃ d o, a = .dat d ∧ kGet b d = some o ∧ z = .bool (neg ^^ o.isSome) := by
  unfold oInD at e
  split at e
  · split at e
    · rename_i d _ o h
      cases e
      exact ⟨_, o, rfl, h, rfl⟩
    · cases e
  · cases e
theorem s_inD : OpS (compareOp .In) (oInD false) := by
  intro X hc hu pins s σ σ' G H x y v u a b d Q I rx ry gh ra rb na nb e q
  obtain ⟨d1, o, rfl, hk, rfl⟩ := oInD_inv e
  obtain ⟨ad, r, rfl, g, _, ho⟩ := rb.kGet gh ra hk
  cases ry
  refine d_in (by omega) I g rx fun s' I' => ⟨.bl r.isSome, H, I', rfl, ?_⟩
  have e2 : o.isSome = r.isSome := by
    rcases ho with ⟨rfl, rfl⟩ | ⟨_, _, rfl, rfl, _⟩ <;> rfl
  rw [e2] at q
  exact q _ G H New.refl (Dt.xf _)
theorem s_notInD : OpS (compareOp .NotIn) (oInD true) := by
  intro X hc hu pins s σ σ' G H x y v u a b d Q I rx ry gh ra rb na nb e q
  obtain ⟨d1, o, rfl, hk, rfl⟩ := oInD_inv e
  obtain ⟨ad, r, rfl, g, _, ho⟩ := rb.kGet gh ra hk
  cases ry
  refine d_notIn (by omega) I g rx fun s' I' => ⟨.bl (!r.isSome), H, I', rfl, ?_⟩
  have e2 : o.isSome = r.isSome := by
    rcases ho with ⟨rfl, rfl⟩ | ⟨_, _, rfl, rfl, _⟩ <;> rfl
  rw [e2] at q
  exact q _ G H New.refl (Dt.xt _)
/-- dicts of ints compared that hold the same -/
def flatK : List (Key × PyData) → Bool
  | [] => true
  | (_, .int _) :: r => flatK r
  | _ => false
def sameK (a b : List (Key × PyData)) : Bool := decide (a.length = b.length) && a.all fun p => match p.2, kvGet b p.1 with
  | .int i, some (.int j) => decide (i = j)
  | _, _ => false
def oEqK (neg : Bool) : Op2 := fun a b => match a, b with
  | .mk ks, .mk ls => if sameK ks ls = true then some (.bool (neg ^^ true)) else none
  | _, _ => none
theorem oEqK_inv {neg : Bool} {a b : Val} {z : PyData} (e : oEqK neg a b = some z) : ∃ ks ls, a = .mk ks ∧ b = .mk ls ∧ sameK ks ls = true ∧ z = .bool (neg ^^ true) := by
  unfold oEqK at e
  split at e
  · split at e
    · rename_i h
      cases e
      exact ⟨_, _, rfl, rfl, h, rfl⟩
    · cases e
  · cases e
theorem sameK_go {K : PySem.W.Frag} {G : Hp} {ks ls : List (Key × V)} {kd ld : List (Key × PyData)} (h1 : KvR K G ks kd) (h2 : KvR K G ls ld) (e : sameK kd ld = true) : ks.length = ls.length ∧ ∀ p ∈ ks, valV ls p.1 = some p.2 ∧ flatB p.2 = true := by
  unfold sameK at e
  rw [Bool.and_eq_true] at e
  refine ⟨by rw [h1.len, h2.len]; exact of_decide_eq_true e.1, ?_⟩
  have e2 := List.all_eq_true.mp e.2
  clear e
  unfold KvR at h1
  induction h1 with
  | nil => exact fun p hp => nomatch hp
  | @cons p q ps qs a b ih =>
    intro x hx
    rcases List.mem_cons.mp hx with rfl | hx
    · have z := e2 q List.mem_cons_self
      split at z
      · rename_i i j eq1 eq2
        obtain rfl := of_decide_eq_true z
        rcases h2.get x.1 with ⟨_, n⟩ | ⟨v, d, g1, g2, dt⟩
        · rw [a.1, eq2] at n; cases n
        · rw [a.1, eq2] at g2
          cases g2
          have a2 := a.2
          rw [eq1] at a2
          cases dt
          have : x.2 = .int i := by
            cases hx2 : x.2 <;> rw [hx2] at a2 <;> cases a2
            rfl
          rw [this]
          exact ⟨g1, rfl⟩
      · cases z
    · exact ih (fun y hy => e2 y (List.mem_cons_of_mem _ hy)) x hx
theorem s_eqK : OpS (compareOp .Eq) (oEqK false) := by
  refine OpS.of fun X hc hu G H σ' x y a b d Q gh ra rb e q => ?_
  obtain ⟨kd, ld, rfl, rfl, hs, rfl⟩ := oEqK_inv e
  obtain ⟨p, ks, rfl, _, h1, q1⟩ := ra
  obtain ⟨p2, ls, rfl, _, h2, q2⟩ := rb
  obtain ⟨hl, hp⟩ := sameK_go q1 q2 hs
  exact ⟨_, op_eq_dictA (by omega), p, p2, ks, ls, rfl, rfl, h1, h2, hl, hp, q _ G H New.refl (.bl true)⟩
theorem s_neK : OpS (compareOp .NotEq) (oEqK true) := by
  refine OpS.of fun X hc hu G H σ' x y a b d Q gh ra rb e q => ?_
  obtain ⟨kd, ld, rfl, rfl, hs, rfl⟩ := oEqK_inv e
  obtain ⟨p, ks, rfl, _, h1, q1⟩ := ra
  obtain ⟨p2, ls, rfl, _, h2, q2⟩ := rb
  obtain ⟨hl, hp⟩ := sameK_go q1 q2 hs
  exact ⟨_, op_ne_dictA (by omega), p, p2, ks, ls, rfl, rfl, h1, h2, hl, hp, q _ G H New.refl (.bl false)⟩
/-! ### d[k] -/
def fin2D (op : Op2) := fin2 op
def oDG : Op2 := fun a b => match b with
  | .dat d => match kGet a d with
    | some (some z) => some z
    | _ => none
  | _ => none
section
variable {Γ : Gam} {N : List Str} {np : Nat} {sc : Scope}
theorem sE_dg {a b : Expr} {pos : Pos} {fa fb : Ev} (ha : SndE Γ N sc a fa) (hb : SndE Γ N sc b fb) (hs : NoSl b := by intro _ _; rfl) : SndE Γ N sc (.Subscript a b pos) (cBin oDG fa fb) := by
  intro X W kn G H σ ρ Q s w
  have hu := kn.units
  refine tE_of (pe_dget (by omega) pe_star pe_star hs) ?_
  refine (ha.go kn s.postX w).mono fun x H1 ⟨G1, ρ1, v1, pe1, p1, w1⟩ => ?_
  refine (hb.go kn p1 w1).mono fun y H2 ⟨G2, ρ2, v2, pe2, p2, w2⟩ => ?_
  unfold fin2 at w2
  split at w2
  · rename_i a' b' ea eb
    have r1 := res.rel p2.st (pe1.keep pe2.x).rv ea
    have r2 := res.rel p2.st pe2.rv eb
    unfold oDG at w2
    split at w2
    · rename_i hd
      split at hd
      · rename_i dk
        split at hd
        · rename_i z hk
          cases hd
          obtain ⟨ad, r, rfl, g, _, ho⟩ := r1.1.kGet p2.st.gh r2.1 hk
          rcases ho with ⟨_, z⟩ | ⟨v, z', rfl, e, dt⟩
          · cases z
          · cases e
            exact ⟨ad, v, rfl, g, w2 _ G2 H2 (p2.dat dt)⟩
        · cases hd
      · cases hd
    · exact w2.elim
  · exact w2.elim
end
end PP

end
section
set_option maxHeartbeats 1000000
set_option Elab.async false
set_option linter.all false
set_option maxRecDepth 100000
/-! PPo: the pure layer: lists and dicts changed in place; d.get; list(d). -/
namespace PP
open PySem PySem.Spec PyProof.Rows L2

def isObj : Val → Bool
  | .ml _ => true
  | .mk _ => true
  | .mt _ => true
  | _ => false
section
variable {K : PySem.W.Frag} {G H : Hp} {σ : L2.St} {ρ : Env} {i : Nat} {a : Addr} {u : V} {v v' : Val} {o : HO}
theorem foot_obj (h : isObj v = true) {b : Addr} : foot H (.ref a) v b ↔ b = a := by
  cases v <;> first | (cases h; done) | exact ⟨fun e => (V.ref.inj e).symm, fun e => by rw [e]; rfl⟩
/-- an owned object is changed -/
theorem S8.mut (s : S8 K G H σ ρ) (h1 : σ[i]? = some (some (.ref a))) (h2 : ρ[i]? = some (some v)) (hv : isObj v = true) (hv' : isObj v' = true) (r' : RelW K G (upd H a o) σ (.ref a) v') (no : ∀ xs, o ≠ .tup xs) : PostX K σ G H ρ G (upd H a o) (ρ.set i (some v')) := by
  obtain ⟨nb0, u0, hu0, r0⟩ := s.rel i v h2
  rw [h1] at hu0; cases hu0
  have ha : H a ≠ none ∧ G a = none := ⟨foot.there r0 ((foot_obj hv).mpr rfl), foot.free r0 ((foot_obj hv).mpr rfl)⟩
  have hil : i < ρ.length := lt_of_get h2
  have apart : ∀ {j : Nat} {u : V} {w : Val}, j ≠ i → σ[j]? = some (some u) → ρ[j]? = some (some w) → ∀ b, foot H u w b → b ≠ a := fun {j u w} ne g1 g2 b f e => by
    subst e
    exact s.sep j i u w _ v _ ne g1 g2 h1 h2 f ((foot_obj hv).mpr rfl)
  have x : Ext (fun b => b = a) G H G (upd H a o) := ⟨fun _ _ h => h, fun _ _ _ => rfl, fun c z h n => by rw [upd_ne n]; exact h, fun c h => by
    by_cases e : c = a
    · subst e; rw [upd_same]; simp
    · rw [upd_ne e]; exact h⟩
  have kept : ∀ {j : Nat} {u : V} {w : Val}, j ≠ i → σ[j]? = some (some u) → ρ[j]? = some (some w) → RelW K G (upd H a o) σ u w ∧ ∀ b, foot (upd H a o) u w b ↔ foot H u w b := fun {j u w} ne g1 g2 => by
    obtain ⟨nb, u', hu, r⟩ := s.rel j w g2
    rw [g1] at hu; cases hu
    exact ⟨r.keep x (apart ne g1 g2), foot.keep x r (apart ne g1 g2)⟩
  have slot : ∀ {j : Nat} {w : Val}, (ρ.set i (some v'))[j]? = some (some w) → (j = i ∧ w = v') ∨ (j ≠ i ∧ ρ[j]? = some (some w)) := fun {j w} h => by
    by_cases e : j = i
    · subst e
      rw [List.getElem?_set_self hil] at h
      cases h
      exact .inl ⟨rfl, rfl⟩
    · rw [List.getElem?_set_ne (Ne.symm e)] at h
      exact .inr ⟨e, h⟩
  have own : ∀ {j : Nat} {u : V} {w : Val} {b : Addr}, σ[j]? = some (some u) → (ρ.set i (some v'))[j]? = some (some w) → foot (upd H a o) u w b → (j = i ∧ b = a) ∨ (j ≠ i ∧ ρ[j]? = some (some w) ∧ foot H u w b) := fun {j u w b} g1 g2 f => by
    rcases slot g2 with ⟨rfl, rfl⟩ | ⟨ne, g⟩
    · rw [h1] at g1; cases g1
      exact .inl ⟨rfl, (foot_obj hv').mp f⟩
    · exact .inr ⟨ne, g, ((kept ne g1 g).2 b).mp f⟩
  refine ⟨⟨fun c z h => ?_, fun c xs h => ?_, by rw [List.length_set]; exact s.len, fun j w h => ?_, fun j k u1 w1 u2 w2 b ne g1 g2 g3 g4 f f' => ?_⟩, ⟨fun _ _ h => h, fun _ _ _ => rfl, fun c z h n => ?_, x.th⟩, fun b ⟨j, u1, w1, g1, g2, f⟩ => ?_, fun j w h hm => ?_⟩
  · rw [upd_ne (ne_of_none h ha.2)]; exact s.gh c z h
  · by_cases e : c = a
    · subst e; rw [upd_same] at h; exact absurd (Option.some.inj h) (no xs)
    · rw [upd_ne e] at h; exact s.ht c xs h
  · rcases slot h with ⟨rfl, rfl⟩ | ⟨ne, g⟩
    · exact ⟨by cases w <;> first | (cases hv'; done) | trivial, _, h1, r'⟩
    · obtain ⟨nb, u', hu, r⟩ := s.rel j w g
      exact ⟨nb, u', hu, (kept ne hu g).1⟩
  · rcases own g1 g2 f with ⟨rfl, rfl⟩ | ⟨n1, g5, f5⟩
    · rcases own g3 g4 f' with ⟨rfl, _⟩ | ⟨n2, g6, f6⟩
      · exact ne rfl
      · exact apart n2 g3 g6 _ f6 rfl
    · rcases own g3 g4 f' with ⟨rfl, rfl⟩ | ⟨n2, g6, f6⟩
      · exact apart n1 g1 g5 _ f5 rfl
      · exact s.sep j k u1 w1 u2 w2 b ne g1 g5 g3 g6 f5 f6
  · have ne : c ≠ a := fun e => n (by subst e; exact ⟨i, _, v, h1, h2, (foot_obj hv).mpr rfl⟩)
    rw [upd_ne ne]; exact h
  · rcases own g1 g2 f with ⟨rfl, rfl⟩ | ⟨n1, g5, f5⟩
    · exact ⟨_, _, v, h1, h2, (foot_obj hv).mpr rfl⟩
    · exact ⟨j, u1, w1, g1, g5, f5⟩
  · rcases slot h with ⟨rfl, rfl⟩ | ⟨ne, g⟩
    · refine ⟨rfl, v, h2, by cases v <;> first | (cases hv; done) | rfl, fun u b g1 f => ?_⟩
      rw [h1] at g1; cases g1
      exact (foot_obj hv).mpr ((foot_obj hv').mp f)
    · exact ⟨rfl, w, g, hm, fun u b g1 f => ((kept ne g1 g).2 b).mp f⟩
end
section
variable {Γ : Gam} {N : List Str} {np : Nat} {sc : Scope}
/-- a name by its slot, as a step -/
theorem slot_go {X : Cx} {W : WX} (kn : Kn Γ X sc N W) {i : Nat} {x : Str} {pos : Pos} {σ : L2.St} {H : Hp} {u : V} {Q : VK} (hN : N[i]? = some x) (hv : visB sc x = true) (hd : (x == ("__debug__" : Str)) = false) (hcd : (x == ("__classdict__" : Str)) = false) (hu : σ[i]? = some (some u)) (q : Q u H) : tE X (.Name x pos) σ H Q :=
  tE_of (pe_var (i := i) (kn.nn ▸ hN) (kn.sc ▸ vis_of hv) hd hcd) ⟨u, hu, q⟩
/-! ### xs.append(y), xs.extend(ys) -/
def finApp (i : Nat) (v : Val) (ρ : Env) : Option (Rs Val) := match v, ρ[i]? with
  | .dat d, some (some (.ml ds)) => if okLen (ds.length + 1) = true then some (.ok (.dat .none) (ρ.set i (some (.ml (ds ++ [d]))))) else none
  | _, _ => none
def isMl (i : Nat) (ρ : Env) : Bool := match ρ[i]? with
  | some (some (.ml _)) => true
  | _ => false
def cApp (i : Nat) (f : Ev) : Ev := fun ρ => if isMl i ρ = true then bnd (f ρ) fun v ρ1 => finApp i v ρ1 else none
theorem isMl_inv {i : Nat} {ρ : Env} (h : isMl i ρ = true) : ∃ ds, ρ[i]? = some (some (.ml ds)) := by
  unfold isMl at h
  split at h
  · exact ⟨_, by assumption⟩
  · cases h
theorem slotMl {K : PySem.W.Frag} {σ : L2.St} {G H : Hp} {ρ : Env} {i : Nat} {ds : List PyData} (s : S8 K G H σ ρ) (h : ρ[i]? = some (some (.ml ds))) : ∃ a vs, σ[i]? = some (some (.ref a)) ∧ G a = none ∧ H a = some (.lst vs) ∧ DtAll K G vs ds := by
  obtain ⟨_, u, hu, a, vs, rfl, g, h1, q⟩ := s.rel i _ h
  exact ⟨a, vs, hu, g, h1, q⟩
theorem sE_app {i : Nat} {x : Str} {e : Expr} {px ap cp : Pos} {f : Ev} (hN : N[i]? = some x) (hv : visB sc x = true) (he : SndE Γ N sc e f) (hd : (x == ("__debug__" : Str)) = false := by decide) (hcd : (x == ("__classdict__" : Str)) = false := by decide)
    (hbase : ∀ env, attributeBase (.Name x px) "append" env (eval (.Name x px) env) = eval (.Name x px) env := by intro _; rfl)
    (hfew : ∀ env, ((backTo cp (starEach [e] env)).all (fun x => !x.1) && (backToKw cp (keywordEach [] env)).all (fun x => x.1.isSome) && decide (([e] : List Expr).length + ([] : List Keyword).length + (if ([] : List Keyword).isEmpty then 0 else 1) < 30)) = true := by intro _; rfl)
    (hline : (ap.endLine == cp.line) = true := by rfl) (hs : ∀ env, starEach [e] env = (false, eval e env) :: starEach [] env := by intro _; rfl) :
    SndE Γ N sc (.Call (.Attribute (.Name x px) "append" ap) [e] [] cp) (cApp i f) := by
  intro X W kn G H σ ρ Q s w
  unfold cApp at w
  split at w
  · rename_i hm
    obtain ⟨ds0, hi0⟩ := isMl_inv hm
    obtain ⟨a, vs0, hσ, g0, h0, _⟩ := slotMl s hi0
    refine tE_of (pe_bm PySem.F.plainAttrs_list PySem.F.slot_list_append PySem.F.type_list_append mt_append pe_star (pa_cons pe_star pa_nil (hs X.env)) (hbase X.env) (hfew X.env) hline (hs X.env) (by rfl)) ?_
    refine slot_go kn hN hv hd hcd hσ ⟨.inl ⟨rfl, vs0, .inl (.inl h0)⟩, ?_⟩
    refine (he.go kn s.postX w).mono fun u H1 ⟨G1, ρ1, v, pe, p1, w1⟩ => ?_
    unfold finApp at w1
    split at w1
    · rename_i d ds hi1
      split at w1
      · rename_i ho
        obtain ⟨a', vs, hσ', g1, h1, qa⟩ := slotMl p1.st hi1
        rw [hσ] at hσ'; cases hσ'
        have hdt : Dt X.K G1 u d := pe.rv
        have hl : vs.length + 1 ≤ sizeLine := by rw [qa.len]; exact okLen.line ho
        refine ⟨a, vs, u, rfl, rfl, h1, hl, ?_⟩
        have pm := p1.st.mut (v' := .ml (ds ++ [d])) (o := .lst (vs ++ [u])) hσ hi1 rfl rfl ⟨a, _, rfl, g1, upd_same, qa.app (.cons hdt .nil)⟩ (fun _ e => nomatch e)
        exact w1 _ _ _ ((p1.trans pm).dat .non)
      · exact w1.elim
    · exact w1.elim
  · exact w.elim
def finExt (i : Nat) (v : Val) (ρ : Env) : Option (Rs Val) := match res ρ v, ρ[i]? with
  | some a, some (some (.ml ds)) => match lOf a with
    | some es => if okLen (ds.length + es.length) = true then some (.ok (.dat .none) (ρ.set i (some (.ml (ds ++ es))))) else none
    | none => none
  | _, _ => none
def cExt (i : Nat) (f : Ev) : Ev := fun ρ => if isMl i ρ = true then bnd (f ρ) fun v ρ1 => finExt i v ρ1 else none
theorem sE_ext {i : Nat} {x : Str} {e : Expr} {px ap cp : Pos} {f : Ev} (hN : N[i]? = some x) (hv : visB sc x = true) (he : SndE Γ N sc e f) (hd : (x == ("__debug__" : Str)) = false := by decide) (hcd : (x == ("__classdict__" : Str)) = false := by decide)
    (hbase : ∀ env, attributeBase (.Name x px) "extend" env (eval (.Name x px) env) = eval (.Name x px) env := by intro _; rfl)
    (hfew : ∀ env, ((backTo cp (starEach [e] env)).all (fun x => !x.1) && (backToKw cp (keywordEach [] env)).all (fun x => x.1.isSome) && decide (([e] : List Expr).length + ([] : List Keyword).length + (if ([] : List Keyword).isEmpty then 0 else 1) < 30)) = true := by intro _; rfl)
    (hline : (ap.endLine == cp.line) = true := by rfl) (hs : ∀ env, starEach [e] env = (false, eval e env) :: starEach [] env := by intro _; rfl) :
    SndE Γ N sc (.Call (.Attribute (.Name x px) "extend" ap) [e] [] cp) (cExt i f) := by
  intro X W kn G H σ ρ Q s w
  unfold cExt at w
  split at w
  · rename_i hm
    obtain ⟨ds0, hi0⟩ := isMl_inv hm
    obtain ⟨a, vs0, hσ, g0, h0, _⟩ := slotMl s hi0
    refine tE_of (pe_bm PySem.F.plainAttrs_list PySem.F.slot_list_extend PySem.F.type_list_extend mt_extend pe_star (pa_cons pe_star pa_nil (hs X.env)) (hbase X.env) (hfew X.env) hline (hs X.env) (by rfl)) ?_
    refine slot_go kn hN hv hd hcd hσ ⟨.inl ⟨rfl, vs0, .inl (.inl h0)⟩, ?_⟩
    refine (he.go kn s.postX w).mono fun u H1 ⟨G1, ρ1, v, pe, p1, w1⟩ => ?_
    unfold finExt at w1
    split at w1
    · rename_i av ds ea hi1
      split at w1
      · rename_i es el
        split at w1
        · rename_i ho
          obtain ⟨a', vs, hσ', g1, h1, qa⟩ := slotMl p1.st hi1
          rw [hσ] at hσ'; cases hσ'
          obtain ⟨b, zs, rfl, hb, qb⟩ := (res.rel p1.st pe.rv ea).1.lOf p1.st.gh el
          have hl : vs.length + zs.length ≤ sizeLine := by rw [qa.len, qb.len]; exact okLen.line ho
          refine ⟨a, b, vs, zs, rfl, rfl, h1, hb, hl, ?_⟩
          have pm := p1.st.mut (v' := .ml (ds ++ es)) (o := .lst (vs ++ zs)) hσ hi1 rfl rfl ⟨a, _, rfl, g1, upd_same, qa.app qb⟩ (fun _ e => nomatch e)
          exact w1 _ _ _ ((p1.trans pm).dat .non)
        · exact w1.elim
      · exact w1.elim
    · exact w1.elim
  · exact w.elim
/-! ### d[k] = v -/
def kPut (a : Val) (d z : PyData) : Option Val := match a, d with
  | .mk kvs, .int i => if okLen (kvs.length + 1) = true then some (.mk (kvPut kvs (.inl i) z)) else none
  | .mk kvs, .str x => if okLen (kvs.length + 1) = true then some (.mk (kvPut kvs (.inr x) z)) else none
  | .mt kvs, .tuple ds => match keysD ds with
    | some ks => if okLen (kvs.length + 1) = true then some (.mt (kvPut kvs ks z)) else none
    | none => none
  | _, _ => none
theorem kPut_go {K : PySem.W.Frag} {G H : Hp} {σ : L2.St} {ρ : Env} {i : Nat} {v v' : Val} {u y : V} {d z : PyData} (s : S8 K G H σ ρ) (h1 : σ[i]? = some (some u)) (h2 : ρ[i]? = some (some v)) {w : V} (hy : Dt K G y d) (hw : Dt K G w z) (e : kPut v d z = some v') :
    ∃ a H', u = .ref a ∧ DPut H a y w H' ∧ PostX K σ G H ρ G H' (ρ.set i (some v')) := by
  obtain ⟨_, u', hu', r⟩ := s.rel i v h2
  rw [h1] at hu'; cases hu'
  unfold kPut at e
  split at e
  · rename_i kvs j _
    split at e
    · rename_i ho
      cases e
      obtain ⟨a, ks, rfl, g, h, q⟩ := r
      cases hy
      have hl : ks.length < sizeLine := by rw [KvR.len q]; exact okLen.line ho
      exact ⟨a, _, rfl, DPut.k (k := .inl j) h hl, s.mut h1 h2 rfl rfl ⟨a, _, rfl, g, upd_same, KvR.put q _ hw⟩ (fun _ e => nomatch e)⟩
    · cases e
  · rename_i kvs j _
    split at e
    · rename_i ho
      cases e
      obtain ⟨a, ks, rfl, g, h, q⟩ := r
      cases hy
      have hl : ks.length < sizeLine := by rw [KvR.len q]; exact okLen.line ho
      exact ⟨a, _, rfl, DPut.k (k := .inr j) h hl, s.mut h1 h2 rfl rfl ⟨a, _, rfl, g, upd_same, KvR.put q _ hw⟩ (fun _ e => nomatch e)⟩
    · cases e
  · rename_i kvs ds
    split at e
    · rename_i kk ek
      split at e
      · rename_i ho
        cases e
        obtain ⟨a, ks, rfl, g, h, q⟩ := r
        cases hy with
        | tup hs ha =>
          rw [ha.keys ek] at hs
          have hl : ks.length < sizeLine := by rw [KvR.len q]; exact okLen.line ho
          exact ⟨a, _, rfl, DPut.t (k := kk) h (s.gh _ _ hs) hl, s.mut h1 h2 rfl rfl ⟨a, _, rfl, g, upd_same, KvR.put q _ hw⟩ (fun _ e => nomatch e)⟩
      · cases e
    · cases e
  · cases e
def finPut (i : Nat) (v k : Val) (ρ : Env) : Option (Rs Fl) := match v, k, ρ[i]? with
  | .dat z, .dat d, some (some a) => match kPut a d z with
    | some a' => some (.ok .nx (ρ.set i (some a')))
    | none => none
  | _, _, _ => none
theorem finPut_inv {i : Nat} {v k : Val} {ρ : Env} {q : Fl → Env → Prop} {e : PyX → Env → Prop} (w : WP (finPut i v k ρ) q e) : ∃ z d a a', v = .dat z ∧ k = .dat d ∧ ρ[i]? = some (some a) ∧ kPut a d z = some a' ∧ q .nx (ρ.set i (some a')) := by
  unfold finPut at w
  split at w
  · split at w
    · exact ⟨_, _, _, _, rfl, rfl, by assumption, by assumption, w⟩
    · exact w.elim
  · exact w.elim
def isSet (i : Nat) (ρ : Env) : Bool := match ρ[i]? with
  | some (some _) => true
  | _ => false
theorem isSet_inv {i : Nat} {ρ : Env} (h : isSet i ρ = true) : ∃ v, ρ[i]? = some (some v) := by
  unfold isSet at h
  split at h
  · exact ⟨_, by assumption⟩
  · cases h
def sPut (i : Nat) (fk fv : Ev) : Ex := fun ρ => bnd (fv ρ) fun v ρ1 => if isSet i ρ1 = true then bnd (fk ρ1) fun k ρ2 => finPut i v k ρ2 else none
theorem sS_put {i : Nat} {x : Str} {k e : Expr} {px pp pos : Pos} {fk fv : Ev} (hN : N[i]? = some x) (hv : visB sc x = true) (hk : SndE Γ N sc k fk) (he : SndE Γ N sc e fv) (hd : (x == ("__debug__" : Str)) = false := by decide) (hcd : (x == ("__classdict__" : Str)) = false := by decide)
    (hs : ∀ env, swapsWith e (some (.Subscript (.Name x px) k pp)) pos.line env = pure false := by intro _; rfl) : SndS Γ N np sc (.Assign [.Subscript (.Name x px) k pp] e pos) (sPut i fk fv) := by
  intro X W kn G H σ ρ D s hl w
  have hu := kn.units
  refine tS_of (ps_dput (by omega) pe_star pe_star pe_star (hs X.env)) ?_
  refine (he.goS kn.toKn s.postS w).mono fun u H1 ⟨G1, ρ1, v, pe1, p1, w1⟩ => ?_
  split at w1
  · rename_i hset
    obtain ⟨w0, hi1⟩ := isSet_inv hset
    obtain ⟨_, ud, hσ, _⟩ := p1.st.rel i _ hi1
    refine slot_go kn.toKn hN hv hd hcd hσ ?_
    refine (hk.goS kn.toKn p1 w1).mono fun y H2 ⟨G2, ρ2, k2, pe2, p2, w2⟩ => ?_
    obtain ⟨z, d, a, a', rfl, rfl, hi2, hp, w3⟩ := finPut_inv w2
    have hz : Dt X.K G2 u z := (pe1.keep pe2.x).rv
    have hy : Dt X.K G2 y d := pe2.rv
    obtain ⟨ad, H4, e, dp, pm⟩ := kPut_go p2.st hσ hi2 hy hz hp
    exact ⟨ad, H4, e, dp, w3 _ _ _ (p2.trans pm.toS)⟩
  · exact w1.elim
/-! ### d.get(k, x) -/
def isDct (i : Nat) (ρ : Env) : Bool := match ρ[i]? with
  | some (some (.mk _)) => true
  | some (some (.mt _)) => true
  | _ => false
theorem slotD {K : PySem.W.Frag} {σ : L2.St} {G H : Hp} {ρ : Env} {i : Nat} (s : S8 K G H σ ρ) (h : isDct i ρ = true) : ∃ a v, ρ[i]? = some (some v) ∧ σ[i]? = some (some (.ref a)) ∧ IsD H a := by
  unfold isDct at h
  split at h
  · rename_i kvs e
    obtain ⟨_, u, hu, a, ks, rfl, g, h1, q⟩ := s.rel i _ e
    exact ⟨a, _, e, hu, .inl ⟨ks, .inl h1⟩⟩
  · rename_i kvs e
    obtain ⟨_, u, hu, a, ks, rfl, g, h1, q⟩ := s.rel i _ e
    exact ⟨a, _, e, hu, .inr ⟨ks, .inl h1⟩⟩
  · cases h
def finGet (i : Nat) (k x : Val) (ρ : Env) : Option (Rs Val) := match k, x, ρ[i]? with
  | .dat d, .dat z, some (some a) => match kGet a d with
    | some o => some (.ok (.dat (o.getD z)) ρ)
    | none => none
  | _, _, _ => none
theorem finGet_inv {i : Nat} {k x : Val} {ρ : Env} {q : Val → Env → Prop} {e : PyX → Env → Prop} (w : WP (finGet i k x ρ) q e) : ∃ d z a o, k = .dat d ∧ x = .dat z ∧ ρ[i]? = some (some a) ∧ kGet a d = some o ∧ q (.dat (o.getD z)) ρ := by
  unfold finGet at w
  split at w
  · split at w
    · exact ⟨_, _, _, _, rfl, rfl, by assumption, by assumption, w⟩
    · exact w.elim
  · exact w.elim
def cGet (i : Nat) (fk fx : Ev) : Ev := fun ρ => if isDct i ρ = true then bnd (fk ρ) fun k ρ1 => bnd (fx ρ1) fun x ρ2 => finGet i k x ρ2 else none
theorem sE_get {i : Nat} {x : Str} {k e : Expr} {px ap cp : Pos} {fk fx : Ev} (hN : N[i]? = some x) (hv : visB sc x = true) (hk : SndE Γ N sc k fk) (he : SndE Γ N sc e fx) (hd : (x == ("__debug__" : Str)) = false := by decide) (hcd : (x == ("__classdict__" : Str)) = false := by decide)
    (m : ∀ X : Cx, M2 X (.Name x px) "get" ap k e cp := by intro X; exact ⟨rfl, rfl, rfl, rfl⟩) : SndE Γ N sc (.Call (.Attribute (.Name x px) "get" ap) [k, e] [] cp) (cGet i fk fx) := by
  intro X W kn G H σ ρ Q s w
  have hu := kn.units
  unfold cGet at w
  split at w
  · rename_i hdc
    obtain ⟨a, v0, h0, hσ, isd⟩ := slotD s hdc
    refine tE_of (pe_dget2 (by omega) pe_star pe_star pe_star (m X)) ?_
    refine slot_go kn hN hv hd hcd hσ ⟨a, rfl, isd, ?_⟩
    refine (hk.go kn s.postX w).mono fun y H1 ⟨G1, ρ1, vk, pe1, p1, w1⟩ => ?_
    refine (he.go kn p1 w1).mono fun z H2 ⟨G2, ρ2, vx, pe2, p2, w2⟩ => ?_
    obtain ⟨d, dz, av, o, rfl, rfl, hi2, ho, w3⟩ := finGet_inv w2
    obtain ⟨_, u', hu', r⟩ := p2.st.rel i _ hi2
    rw [hσ] at hu'; cases hu'
    have hy : Dt X.K G2 y d := (pe1.keep pe2.x).rv
    have hz : Dt X.K G2 z dz := pe2.rv
    obtain ⟨b, r', e, g, _, hr⟩ := r.kGet p2.st.gh hy ho
    cases e
    refine ⟨r', g, ?_⟩
    rcases hr with ⟨rfl, rfl⟩ | ⟨v', z', rfl, rfl, dt⟩
    · exact w3 _ G2 H2 (p2.dat hz)
    · exact w3 _ G2 H2 (p2.dat dt)
  · exact w.elim
/-! ### return, what is owned handed out -/
theorem PostS.drop {K : PySem.W.Frag} {σ0 σ : L2.St} {G0 H0 G H : Hp} {ρ0 ρ : Env} {i : Nat} (p : PostS K np σ0 G0 H0 ρ0 σ G H ρ) : PostS K np σ0 G0 H0 ρ0 σ G H (ρ.set i none) := by
  have at_ : ∀ {j : Nat} {w : Val}, (ρ.set i none)[j]? = some (some w) → j ≠ i ∧ ρ[j]? = some (some w) := fun {j w} h => by
    by_cases e : j = i
    · subst e
      by_cases hj : j < ρ.length
      · rw [List.getElem?_set_self hj] at h; cases h
      · rw [List.getElem?_eq_none (by simpa using hj)] at h; cases h
    · rw [List.getElem?_set_ne (Ne.symm e)] at h
      exact ⟨e, h⟩
  exact ⟨⟨p.st.gh, p.st.ht, by rw [List.length_set]; exact p.st.len, fun j w h => p.st.rel j w (at_ h).2, fun j k u v u' v' b ne h1 h2 h3 h4 f f' => p.st.sep j k u v u' v' b ne h1 (at_ h2).2 h3 (at_ h4).2 f f'⟩, p.ext,
    fun b ⟨j, u, v, h1, h2, f⟩ => p.mm b ⟨j, u, v, h1, (at_ h2).2, f⟩, fun j hj w h hm => p.mt j hj w (at_ h).2 hm, p.ln⟩
theorem PostS.ice {K : PySem.W.Frag} {σ0 σ : L2.St} {G0 H0 G H : Hp} {ρ0 ρ : Env} {D : Addr} {o : HO} (p : PostS K np σ0 G0 H0 ρ0 σ G H ρ) (hD : H D = some o) (nD : ¬ Own H σ ρ D) (gD : G D = none) (hH : Own H0 σ0 ρ0 D ∨ H0 D = none) : PostS K np σ0 G0 H0 ρ0 σ (upd G D o) H ρ := by
  refine ⟨⟨fun a z h => ?_, fun a xs h => ?_, p.st.len, fun i v h => ?_, p.st.sep⟩, ⟨fun a z h => ?_, fun a h n => ?_, p.ext.hh, p.ext.th⟩, p.mm, p.mt, p.ln⟩
  · by_cases e : a = D
    · subst e; rw [upd_same] at h; cases h; exact hD
    · rw [upd_ne e] at h; exact p.st.gh a z h
  · by_cases e : a = D
    · subst e; rw [upd_same]; rw [hD] at h; exact h
    · rw [upd_ne e]; exact p.st.ht a xs h
  · obtain ⟨nb, u, hu, r⟩ := p.st.rel i v h
    have hf : ∀ b, foot H u v b → b ≠ D := fun b f e => nD (e ▸ ⟨i, u, v, hu, h, f⟩)
    have x : Ext (fun b => b = D) G H (upd G D o) H := ⟨fun a z h => by rw [upd_ne (ne_of_none h gD)]; exact h, fun a _ n => upd_ne n, fun _ _ h _ => h, fun _ h => h⟩
    exact ⟨nb, u, hu, r.keep x hf⟩
  · rw [upd_ne (ne_of_none (p.ext.gg a z h) gD)]; exact p.ext.gg a z h
  · have ne : a ≠ D := fun e => by
      subst e
      exact hH.elim n h
    rw [upd_ne ne]; exact p.ext.gn a h n
def retV (v : Val) (ρ : Env) : Option (Val × Env) := match v with
  | .bor i => match ρ[i]? with
    | some (some (.ml ds)) => some (.dat (.list ds), ρ.set i none)
    | some (some (.mk kvs)) => some (.mk kvs, ρ.set i none)
    | some (some (.mt kvs)) => some (.mt kvs, ρ.set i none)
    | some (some (.tp p c)) => some (.tp p c, ρ.set i none)
    | _ => none
  | .ml ds => some (.dat (.list ds), ρ)
  | v => some (v, ρ)
def sRetM (f : Ev) : Ex := fun ρ => bnd (f ρ) fun v ρ1 => match retV v ρ1 with
  | some (w, ρ2) => some (.ok (.rt w) ρ2)
  | none => none
theorem sS_retM {e : Expr} {pos : Pos} {f : Ev} (h : SndE Γ N sc e f) : SndS Γ N np sc (.Return (some e) pos) (sRetM f) := by
  intro X W kn G H σ ρ D s _ w
  refine tS_of (ps_ret pe_star) ?_
  refine (h.goS kn.toKn s.postS w).mono fun u H1 ⟨G1, ρ1, v, pe, p1, w1⟩ => ?_
  -- a slot's value moved out
  have move : ∀ {i : Nat} {a : Val}, v = .bor i → ρ1[i]? = some (some a) → NoBor a ∧ RelW X.K G1 H1 σ u a ∧ ∀ b, foot H1 u a b → ¬ Own H1 σ (ρ1.set i none) b ∧ (Own H σ ρ b ∨ H b = none) := fun {i a} ev hi => by
    subst ev
    obtain ⟨nb, u', hu, r⟩ := p1.st.rel i a hi
    have e1 : σ[i]? = some (some u) := pe.rv
    rw [hu] at e1; cases e1
    refine ⟨nb, r, fun b f => ⟨fun ⟨j, u2, v2, h1, h2, f2⟩ => ?_, p1.mm b ⟨i, u, a, hu, hi, f⟩⟩⟩
    have ne : j ≠ i := fun e => by
      subst e
      rw [List.getElem?_set_self (lt_of_get hi)] at h2
      cases h2
    rw [List.getElem?_set_ne (Ne.symm ne)] at h2
    exact p1.st.sep j i u2 v2 u a b ne h1 h2 hu hi f2 f
  unfold retV at w1
  split at w1
  · rename_i wv ρ2 er
    split at er
    · rename_i i
      split at er <;> first | cases er | skip
      · rename_i ds hi
        obtain ⟨nb, r, fv⟩ := move rfl hi
        obtain ⟨a, vs, rfl, g, hh, q⟩ := r
        have p2 := (p1.drop (i := i)).ice hh (fv a rfl).1 g (fv a rfl).2
        exact w1 σ _ _ _ p2 ⟨trivial, .lst upd_same (q.mono fun c o hc => by rw [upd_ne (ne_of_none hc g)]; exact hc), fun b f => f.elim⟩
      · rename_i kvs hi
        obtain ⟨nb, r, fv⟩ := move rfl hi
        exact w1 σ _ _ _ p1.drop ⟨nb, r, fv⟩
      · rename_i kvs hi
        obtain ⟨nb, r, fv⟩ := move rfl hi
        exact w1 σ _ _ _ p1.drop ⟨nb, r, fv⟩
      · rename_i p c hi
        obtain ⟨nb, r, fv⟩ := move rfl hi
        exact w1 σ _ _ _ p1.drop ⟨nb, r, fv⟩
    · rename_i ds
      cases er
      obtain ⟨a, vs, rfl, g, hh, q⟩ := pe.rv
      have p2 := p1.ice hh (pe.fv a rfl).1 g (pe.fv a rfl).2
      exact w1 σ _ _ _ p2 ⟨trivial, .lst upd_same (q.mono fun c o hc => by rw [upd_ne (ne_of_none hc g)]; exact hc), fun b f => f.elim⟩
    · rename_i nb1 nb2
      cases er
      have nb : NoBor v := by
        cases v with
        | bor i => exact (nb1 i rfl).elim
        | _ => trivial
      exact w1 σ G1 H1 u p1 ⟨nb, pe.rv, pe.fv⟩
  · exact w1.elim
end
/-! ### list(d) -/
def inlK : List (Key × PyData) → Option (List Int)
  | [] => some []
  | (.inl i, _) :: r => match inlK r with
    | some is => some (i :: is)
    | none => none
  | _ => none
def bKeys : Built := fun as => match as with
  | [.mk kvs] => match inlK kvs with
    | some is => some (.dat (.list (is.map .int)))
    | none => none
  | _ => none
theorem kv_keys {K : PySem.W.Frag} {G : Hp} {ks : List (Key × V)} {kvs : List (Key × PyData)} (h : KvR K G ks kvs) : ∀ {is : List Int}, inlK kvs = some is → ks.map (fun kv => kV kv.1) = is.map .int := by
  unfold KvR at h
  induction h with
  | nil => intro is e; cases e; rfl
  | @cons p q ps qs a b ih =>
    intro is e
    unfold inlK at e
    split at e
    · rename_i hq; cases hq
    · rename_i i d r hq
      cases hq
      split at e
      · rename_i is' e'
        cases e
        rw [List.map_cons, List.map_cons, ih e', a.1]
        rfl
      · cases e
    · cases e
theorem cb_keys : CbS (.type "list") bKeys := by
  intro X hc hu G H σ ρ us as v Q s r e q
  unfold bKeys at e
  split at e
  · rename_i kvs
    split at e
    · rename_i is ek
      cases e
      obtain ⟨u, rfl, rw1, _⟩ := r.one
      obtain ⟨b, ks, rfl, g, h, qa⟩ := rw1
      refine ⟨_, call_list_dK hc, b, ks, rfl, h, fun z hz => ?_⟩
      rw [kv_keys qa ek]
      have px := s.pushX (o := .lst (is.map .int)) hz
      exact q _ _ _ (px.dat (.lst upd_same (DtAll.ofInts is)))
    · cases e
  · cases e
/-- one or the other -/
def orB (f g : Built) : Built := fun as => match f as with
  | some v => some v
  | none => g as
theorem CbS.or {c : Value} {f g : Built} (hf : CbS c f) (hg : CbS c g) : CbS c (orB f g) := by
  intro X hc hu G H σ ρ us as v Q s r e q
  unfold orB at e
  split at e
  · rename_i v' e'
    cases e
    exact hf X hc hu G H σ ρ us as _ Q s r e' q
  · exact hg X hc hu G H σ ρ us as v Q s r e q
end PP

end
section
set_option maxHeartbeats 1000000
set_option Elab.async false
set_option linter.all false
set_option maxRecDepth 100000
/-! PPp: the pure layer: sorted. -/
namespace PP
open PySem PySem.Spec PyProof.Rows L2
open PySem.W (dataLe AllAlike Sortable EachIs dataLt alike sortVals dataKind)

/-- x can be gone through; what comes is l, in some order -/
def Col (X : Cx) (x : V) (H : Hp) (LP : List (V × PyData) → Prop) : Prop :=
  ∀ (pins : List (Addr × Obj)) (s : Shared) (σ : L2.St) (v : Value) (Q : List Value → Shared → Prop), Inv X pins σ H s → RelV x v →
    (∀ s1 (vs : List Value) (l' : List (V × PyData)), Inv X pins σ H s1 → LP l' → Vals (l'.map (·.1)) vs → Q vs s1) → wpAny (model X.prog X.w) X.A.in1 (collect v) Q X.xe s
theorem eachR {l : List (V × PyData)} {vs : List Value} (h : Vals (l.map (·.1)) vs) : EachIs (fun v (p : V × PyData) => RelV p.1 v) vs l := by
  induction l generalizing vs with
  | nil => cases h; exact .nil
  | cons p l ih =>
    cases h with
    | cons a b => exact .cons a (ih b)
theorem relR {l : List (V × PyData)} {vs : List Value} (h : EachIs (fun v (p : V × PyData) => RelV p.1 v) vs l) : Vals (l.map (·.1)) vs := by
  induction l generalizing vs with
  | nil => cases h; exact .nil
  | cons p l ih =>
    cases h with
    | cons a b => exact .cons a (ih b)
def rSortC (X : Cx) : List V → Hp → VK → Prop := fun xs H Q => ∃ (x : V) (LP : List (V × PyData) → Prop) (G : Hp), xs = [x] ∧ Col X x H LP ∧ (∀ p o, G p = some o → H p = some o) ∧
  (∀ l, LP l → (∀ p ∈ l, Dt X.K G p.1 p.2) ∧ AllAlike (l.map (·.2)) ∧ Sortable (l.map (·.2)) ∧ (∀ p ∈ l, p.2.depth ≤ 100) ∧ l.length ≤ 1000000) ∧ ∀ (l' : List (V × PyData)) (p : Addr), LP l' → H p = none → Q (.ref p) (upd H p (.lst ((l'.mergeSort (dataLe false fun q => q.2)).map (·.1))))
theorem cr_sortC {X : Cx} (hu : X.A.units + 200 < cLine) : CallR X (.builtin "sorted") (rSortC X) := by
  intro pins s σ H xs us Q I r ⟨x, LP, G, ex, col, gh, all, q⟩
  subst ex
  obtain ⟨u, eu, rx⟩ := vals1 r
  subst eu
  refine Calls.call_function_entry kind_sorted plain_sorted entry_sorted (args_sorted1 _) ?_
  unfold Builtin.«sorted»
  refine wpAny_bind (m := checkCount "sorted" 1 1 _) (wpAny_pure ?_)
  refine wpAny_bind (col pins s σ u _ I rx fun s1 vs l' I1 pm rv => ?_)
  obtain ⟨dt, hal', hso', hdp, hlen⟩ := all l' pm
  have hvl : vs.length = l'.length := by rw [← rv.length, List.length_map]
  have hL : vs.length ≤ sizeLine := by rw [hvl, sizeLine_eq]; omega
  refine wpAny_bind (wpAny_newList ?_ hL)
  have ho : (s1.heap.push (seqObj "list" vs.toArray 0)).get? s1.heap.objs.size = some (seqObj "list" vs.toArray 0) := Heap.get?_push_size _ rfl
  have old : ∀ (b : Addr) (o : Obj), s1.heap.get? b = some o → (PySem.W.sortingHeap (s1.heap.push (seqObj "list" vs.toArray 0)) s1.heap.objs.size vs).get? b = some o := fun b o e => by
    exact PySem.W.sortingHeap_old (Nat.ne_of_lt (Heap.lt_size e)) (Heap.get?_push_of_some _ e)
  have er : EachIs (fun v (p : V × PyData) => ∃ as, Reads (PySem.W.sortingHeap (s1.heap.push (seqObj "list" vs.toArray 0)) s1.heap.objs.size vs) v p.2 as) vs l' :=
    (PySem.W.each_mem (eachR rv)).mono fun v p ⟨rp, hp⟩ => by
      obtain ⟨as, z⟩ := Dp.reads I1 p.2 p.1 v (Dt.mono gh (dt p hp)).dp rp
      exact ⟨as, PyProof.Rows.Reads.keeps old z⟩
  have S := PySem.W.SortsAt.data (prog := X.prog) (w := X.w) (A := X.A.in1.in1) (s := { s1 with heap := PySem.W.sortingHeap (s1.heap.push (seqObj "list" vs.toArray 0)) s1.heap.objs.size vs })
    (PySem.W.each_map (R := fun v d => ∃ as, Reads (PySem.W.sortingHeap (s1.heap.push (seqObj "list" vs.toArray 0)) s1.heap.objs.size vs) v d as) (fun q : V × PyData => q.2) er) hal' hso'
    (PySem.W.bound_map fun b hb => by
      have := hdp b hb
      show X.A.units + 1 + 1 + b.2.depth < cLine
      omega)
  refine wpAny_bind (wpAny_holding (wpAny_call_entry slot_list_sort ⟨_, ho, rfl⟩ entry_list_sort (PySem.W.list_sort_vals (s := { s1 with heap := s1.heap.push (seqObj "list" vs.toArray 0) }) ho S hL ⟨_, rfl, ?_⟩) (args_list_sort _)))
  obtain ⟨c, hc⟩ := sortedHeap_at (vs := vs) (out := (sortVals (dataKind (PySem.W.sortingHeap (s1.heap.push (seqObj "list" vs.toArray 0)) s1.heap.objs.size vs) (l'.map fun q => q.2)) false vs vs).toArray) ho
  have out := relR (PySem.W.sortVals_data (enc := fun q : V × PyData => q.2) (R := fun v (p : V × PyData) => RelV p.1 v) false (eachR rv) er hal')
  have hlen2 : ((l'.mergeSort (dataLe false fun q => q.2)).map (·.1)).length ≤ sizeLine := by
    rw [List.length_map, List.length_mergeSort, sizeLine_eq]; omega
  refine wpAny_pure ⟨_, rfl, .ref s1.heap.objs.size, upd H s1.heap.objs.size (.lst ((l'.mergeSort (dataLe false fun q => q.2)).map (·.1))), I1.laid (t' := s1.toks) (fun b o e => ?_) (Nat.le_refl _) ⟨hlen2, _, c, out, hc⟩, rfl, q l' _ pm (I1.hok.fresh (Nat.le_refl _))⟩
  have hb : b < s1.heap.objs.size := Heap.lt_size e
  rw [sortedHeap_old (Nat.ne_of_lt hb) (by rw [size_push']; exact Nat.lt_succ_of_lt hb)]
  exact Heap.get?_push_of_some _ e
end PP

end
section
set_option Elab.async false
set_option linter.all false
set_option maxRecDepth 100000
/-! PPq: the pure layer: sets that are sorted at once. -/
namespace PP
open PySem PySem.Spec PyProof.Rows L2
open PySem.W (dataLe AllAlike Sortable EachIs dataLt alike sortVals dataKind)

/-! ### set(xs), xs a list of ints -/
section
variable {P : Program} {w : World} {A : Around} {E : Value → Shared → Prop} {s : Shared}
/-- the new, empty set -/
def set0 (w : World) : Obj := { cls := .type "set", dict := none, data := .set #[] 0 (.fresh 0 0 (!w.params.followText "set-order")) }
set_option maxHeartbeats 3200000 in
theorem set_of_list {l : Addr} {vs : Array Value} (ns : List Int) {Q : Value → Shared → Prop} (nh : A.handled = none) (il : s.heap.IsList l vs) (iv : IntsAre vs.toList ns) (few : ns.length + 1 < scanBound)
    (go : ∀ (h' : Heap) (tk c : Nat), SetR w h' s.heap.objs.size (fun j => decide (j ∈ ns)) c → c ≤ ns.length → (∀ b o, s.heap.get? b = some o → h'.get? b = some o) → Q (.ref s.heap.objs.size) { s with heap := h', toks := tk }) :
    wpAny (model P w) A (call (.type "set") [.ref l]) Q E s := by
  have esz : vs.size = ns.length := by
    rw [← Array.length_toList]
    exact IntsAre.length iv
  obtain ⟨c0, tl0, mr⟩ := F.called_set.mro
  have md := F.called_set.made
  have sb := F.called_set.sub
  refine wpAny_call (codeAny_of_tree (show wpAny _ _ (callAny (.type "set") _) _ _ _ from ?_))
  refine wpAny_pure ⟨Code.quiet_builtin _ (by decide +kernel), codeAny_builtin F.entry_type_call ?_⟩
  rw [Around.under_plain (weight_type_call_type "set" [.ref l] []) rfl]
  have nt := F.called_set.notType
  have cc := F.called_set.canCreate
  have tc := F.typeCall_set_1 (.ref l)
  repeat (any_goals (first | assumption | wp_step))
  refine codeAny_mono (code_set_led1 (.ref l) (E := E) (Q₁ := fun ob sa => ob = .ref s.heap.objs.size ∧ sa = { s with heap := s.heap.push (set0 w) }) ⟨rfl, rfl⟩) fun res sa ha => ?_
  cases res with
  | error x => exact ha
  | ok fl =>
    cases fl with
    | ret ob =>
      obtain ⟨rfl, rfl⟩ := ha
      have at0 : (s.heap.push (set0 w)).get? s.heap.objs.size = some (set0 w) := Heap.get?_push_size _ rfl
      have ty0 : Shared.TypeIs { s with heap := s.heap.push (set0 w) } (.ref s.heap.objs.size) "set" := ⟨_, at0, rfl⟩
      have lk := F.called_set.init.lookup
      have bd := F.called_set.init.bind (.ref s.heap.objs.size)
      repeat (any_goals (first | assumption | wp_step))
      refine codeAny_mono (codeAny_call_builtin (R := wants (fun y sb => y = .none ∧ ∃ h' tk c, sb = { s with heap := h', toks := tk } ∧ SetR w h' s.heap.objs.size (fun j => decide (j ∈ ns)) c ∧ c ≤ ns.length ∧ ∀ b o, s.heap.get? b = some o → h'.get? b = some o) E)
        F.called_set.init.plain F.entry_set_init (check_set_init_1 ty0 ?_)) fun res2 s2 h2 => ?_
      · obtain ⟨ol, hol, hcl, nl, hdl⟩ := il
        obtain ⟨oc, od, odt, osl⟩ := ol
        simp only at hcl hdl
        subst hcl hdl
        have hol2 : (s.heap.push (set0 w)).get? l = some { cls := .type "list", dict := od, data := .seq vs nl, slots := osl } := Heap.get?_push_of_some _ hol
        have n1 := F.sub_list_set
        have n2 := F.sub_list_frozenset
        have n3 : (Value.type "list" == Value.type "dict") = false := by decide
        have il2 : (s.heap.push (set0 w)).IsList l vs := ⟨_, hol2, rfl, nl, rfl⟩
        unfold Builtin.«set.__init__» noKeywords Builtin.Frozenset.updateFrom
        generalize hPI : pyIter = PI
        wp_walk
        subst hPI
        refine wpAny_pyIter_list il2 (wpAny_bind (wpAny_runValue ?_))
        have ll : l < s.heap.objs.size := Heap.lt_size hol
        have h3 : A.in1.in1.in1.handled = none := by simp [nh]
        have ne1 : l ≠ (s.heap.push (set0 w)).objs.size := by rw [Heap.size_push]; exact Nat.ne_of_lt (Nat.lt_succ_of_lt ll)
        have nf : s.heap.objs.size ∉ [(s.heap.push (set0 w)).objs.size, l] := by
          rw [Heap.size_push]
          intro hm
          rcases List.mem_cons.mp hm with e | hm
          · exact Nat.ne_of_lt (Nat.lt_succ_self _) e
          · exact Nat.ne_of_gt ll (List.mem_singleton.mp hm)
        have hv : ∀ (i : Nat) (v : Value), vs[i]? = some v → ∃ k t, ns[i]? = some k ∧ v = .int k t := fun i v e => by
          have hi : i < ns.length := esz ▸ (Array.getElem?_eq_some_iff.mp e).1
          obtain ⟨t, e2⟩ := PyProof.Rows.IntsAre.int_at iv i v (by rw [Array.getElem?_toList]; exact e)
          refine ⟨ns[i], t, List.getElem?_eq_getElem hi, ?_⟩
          rw [e2, List.getD_eq_getElem?_getD, List.getElem?_eq_getElem hi]
          rfl
        refine set_update_ints ((Walks.list h3 _ l ne1 vs).toS) s.heap.objs.size nf ns esz few hv (vs.size - 0) 0 _ rfl (Nat.zero_le _) ⟨⟨_, Heap.get?_push_size _ rfl, rfl, rfl⟩, il2.push _⟩ ?first ?last
        case first =>
          have g0 : ((s.heap.push (set0 w)).push { cls := .type "list_iterator", data := .fields #[.ref l, .int 0 0] }).get? s.heap.objs.size = some (set0 w) := Heap.get?_push_of_some _ at0
          exact ⟨0, Nat.le_refl 0, setR_new_at g0⟩
        case last =>
          intro s9 c9 hm hc hS
          obtain ⟨h', g2, d', tk', os'⟩ := s9
          obtain rfl : g2 = s.gens := hm.gens
          obtain rfl : d' = s.drawn := hm.drawn
          obtain rfl : os' = s.os := hm.os
          show wpAny _ _ _ _ _ _
          refine wpAny_pure ?_
          show wpAny _ _ (ret Value.none) _ _ _
          refine wpAny_pure ⟨rfl, h', tk', c9, rfl, hS, esz ▸ hc, fun b o e => ?_⟩
          have b0 : b < s.heap.objs.size := Heap.lt_size e
          refine hm.heap b o (fun hb => ?_) (Heap.get?_push_of_some _ (Heap.get?_push_of_some _ e))
          rcases List.mem_cons.mp hb with z | hb
          · exact Nat.ne_of_lt b0 z
          · have z := List.mem_singleton.mp hb
            rw [Heap.size_push] at z
            exact Nat.ne_of_lt (Nat.lt_succ_of_lt b0) z
      · cases res2 with
        | error x => exact h2
        | ok f2 =>
          cases f2 with
          | ret y =>
            obtain ⟨rfl, h', tk, c', rfl, q1, q2, q3⟩ := h2
            repeat (any_goals (first | assumption | wp_step))
            exact go _ _ _ q1 q2 q3
          | _ => exact h2.elim
    | _ => exact ha.elim
end
end PP

end
section
set_option maxHeartbeats 1000000
set_option Elab.async false
set_option linter.all false
set_option maxRecDepth 100000
/-! PPr: the pure layer: sorted lists, sorted sets, sorted dicts. -/
namespace PP
open PySem PySem.Spec PyProof.Rows L2
open PySem.W (dataLe AllAlike Sortable EachIs dataLt alike alikeAll sortVals dataKind keyToks keyToksAll)

/-! ### the order of alike data -/
mutual
theorem alike_eq : ∀ (x y : PyData), alike x y = true → PyData.eqv x y = true → x = y
  | .none, y, h, e => by cases y <;> simp_all [alike]
  | .bool a, y, h, e => by cases y <;> simp_all [alike, PyData.eqv]
  | .int a, y, h, e => by cases y <;> simp_all [alike, PyData.eqv]
  | .str a, y, h, e => by cases y <;> simp_all [alike, PyData.eqv]
  | .list xs, y, h, e => by
    cases y with
    | list ys => rw [alikeAll_eq xs ys (by simpa [alike] using h) (by simpa [PyData.eqv] using e)]
    | _ => simp [alike] at h
  | .tuple xs, y, h, e => by
    cases y with
    | tuple ys => rw [alikeAll_eq xs ys (by simpa [alike] using h) (by simpa [PyData.eqv] using e)]
    | _ => simp [alike] at h
  | .dict _, y, h, e => by cases y <;> simp [alike] at h
theorem alikeAll_eq : ∀ (xs ys : List PyData), alikeAll xs ys = true → PyData.eqvAll xs ys = true → xs = ys
  | [], [], _, _ => rfl
  | [], _ :: _, _, e => by simp [PyData.eqvAll] at e
  | _ :: _, [], _, e => by simp [PyData.eqvAll] at e
  | x :: xs, y :: ys, h, e => by
    simp only [alikeAll, Bool.and_eq_true] at h
    simp only [PyData.eqvAll, Bool.and_eq_true] at e
    rw [alike_eq x y h.1 e.1, alikeAll_eq xs ys h.2 e.2]
end
theorem lt_irrefl' (l : List (Int ⊕ List Nat)) : lexLt itemOrd l l = false := (listOrd itemOrd).irrefl l
theorem dataLe_anti {x y : PyData} (ha : alike x y = true) (h1 : dataLe false (fun d : PyData => d) x y = true) (h2 : dataLe false (fun d : PyData => d) y x = true) : x = y := by
  rw [PySem.W.dataLe_eq] at h1 h2
  simp only [cond_false, Bool.not_eq_true'] at h1 h2
  have hk : keyToks x = keyToks y := by
    exact (listOrd itemOrd).total _ _ h2 h1
  refine alike_eq x y ha ?_
  cases e : PyData.eqv x y with
  | true => rfl
  | false =>
    have z := (PySem.W.toks_eqv x y ha).2 e [.inl 0] [.inl 1]
    rw [hk, PySem.W.lex_pre, lt_irrefl'] at z
    exact absurd z (by decide)
def sortD (ds : List PyData) : List PyData := ds.mergeSort (dataLe false fun d => d)
theorem sortD_perm {ds es : List PyData} (hal : AllAlike ds) (p : es.Perm ds) : sortD es = sortD ds := by
  have T := PySem.W.sortLe_total (listOrd itemOrd) false keyToks
  have tr : ∀ a b c : PyData, dataLe false (fun d : PyData => d) a b = true → dataLe false (fun d : PyData => d) b c = true → dataLe false (fun d : PyData => d) a c = true := T.trans
  have to : ∀ a b : PyData, (dataLe false (fun d : PyData => d) a b || dataLe false (fun d : PyData => d) b a) = true := fun a b => by
    rw [Bool.or_eq_true]
    exact T.total a b
  refine List.Perm.eq_of_pairwise (le := fun a b => dataLe false (fun d : PyData => d) a b = true) (fun a b ha hb h1 h2 => ?_) (List.pairwise_mergeSort tr to _) (List.pairwise_mergeSort tr to _) ?_
  · have ha' := p.mem_iff.mp ((List.mergeSort_perm es _).mem_iff.mp ha)
    have hb' := (List.mergeSort_perm ds _).mem_iff.mp hb
    exact dataLe_anti (hal a ha' b hb') h1 h2
  · exact (List.mergeSort_perm es _).trans (p.trans (List.mergeSort_perm ds _).symm)
theorem sort_map (l : List (V × PyData)) : (l.mergeSort (dataLe false fun q => q.2)).map (·.2) = sortD (l.map (·.2)) :=
  List.map_mergeSort fun a _ b _ => rfl
/-! ### what can be sorted -/
def nBot : PyData → Bool
  | .none => false
  | .tuple _ => false
  | _ => true
def nTup : PyData → Bool
  | .tuple (_ :: _) => true
  | _ => false
def canSort (ds : List PyData) : Bool := ds.all (fun d => ds.all fun e => alike d e) && (ds.all nBot || ds.all nTup) && ds.all (fun d => decide (d.depth ≤ 100)) && okLen ds.length
theorem canSort_inv {ds : List PyData} (h : canSort ds = true) : AllAlike ds ∧ Sortable ds ∧ (∀ d ∈ ds, d.depth ≤ 100) ∧ ds.length ≤ 1000000 := by
  unfold canSort at h
  simp only [Bool.and_eq_true, Bool.or_eq_true] at h
  obtain ⟨⟨⟨h1, h2⟩, h3⟩, h4⟩ := h
  refine ⟨fun d hd e he => List.all_eq_true.mp (List.all_eq_true.mp h1 d hd) e he, ?_, fun d hd => of_decide_eq_true (List.all_eq_true.mp h3 d hd), of_decide_eq_true h4⟩
  rcases h2 with h2 | h2
  · refine .inr fun d hd => ?_
    have := List.all_eq_true.mp h2 d hd
    cases d <;> simp_all [nBot]
  · refine .inl fun d hd => ?_
    have := List.all_eq_true.mp h2 d hd
    cases d with
    | tuple xs =>
      cases xs with
      | nil => simp [nTup] at this
      | cons x r => exact ⟨x, r, rfl⟩
    | _ => simp [nTup] at this
theorem DtAll.pairs {K : PySem.W.Frag} {G : Hp} : ∀ {us : List V} {ds : List PyData}, DtAll K G us ds → ∃ l : List (V × PyData), us = l.map (·.1) ∧ ds = l.map (·.2) ∧ ∀ p ∈ l, Dt K G p.1 p.2
  | _, _, .nil => ⟨[], rfl, rfl, fun p hp => nomatch hp⟩
  | _, _, .cons (v := v) (d := d) a b => by
    obtain ⟨l, rfl, rfl, h⟩ := DtAll.pairs b
    exact ⟨(v, d) :: l, rfl, rfl, fun p hp => (List.mem_cons.mp hp).elim (fun e => e ▸ a) (h p)⟩
theorem DtAll.unpair {K : PySem.W.Frag} {G : Hp} : ∀ {l : List (V × PyData)}, (∀ p ∈ l, Dt K G p.1 p.2) → DtAll K G (l.map (·.1)) (l.map (·.2))
  | [], _ => .nil
  | p :: l, h => .cons (h p List.mem_cons_self) (DtAll.unpair fun q hq => h q (List.mem_cons_of_mem _ hq))
/-- the new list's value: frozen, or owned -/
def asL (own : Bool) (ds : List PyData) : Val := if own = true then .ml ds else .dat (.list ds)
theorem new_list {K : PySem.W.Frag} {σ : L2.St} {G H : Hp} {ρ : Env} {p : Addr} {vs : List V} {ds : List PyData} {own : Bool} (s : S8 K G H σ ρ) (hp : H p = none) (h : DtAll K G vs ds) : ∃ G', PostE K σ G H ρ G' (upd H p (.lst vs)) ρ (.ref p) (asL own ds) := by
  unfold asL
  cases own with
  | true =>
    rw [if_pos rfl]
    exact ⟨G, s.postX.own hp (fun _ e => nomatch e) ⟨p, vs, rfl, free_of s hp, upd_same, h⟩ fun b f => (V.ref.inj f).symm⟩
  | false =>
    rw [if_neg (by decide)]
    have px := s.pushX (o := .lst vs) hp
    exact ⟨_, px.dat (.lst upd_same (h.mono px.ext.gg))⟩
theorem sorted_end {K : PySem.W.Frag} {σ : L2.St} {G H : Hp} {ρ : Env} {p : Addr} {l l' : List (V × PyData)} {own : Bool} (s : S8 K G H σ ρ) (hp : H p = none) (h : ∀ q ∈ l, Dt K G q.1 q.2) (hal : AllAlike (l.map (·.2))) (pm : l'.Perm l) :
    ∃ G', PostE K σ G H ρ G' (upd H p (.lst ((l'.mergeSort (dataLe false fun q => q.2)).map (·.1)))) ρ (.ref p) (asL own (sortD (l.map (·.2)))) := by
  have e : sortD (l.map (·.2)) = (l'.mergeSort (dataLe false fun q => q.2)).map (·.2) := by
    rw [sort_map]
    exact (sortD_perm hal (pm.map _)).symm
  rw [e]
  exact new_list s hp (DtAll.unpair fun q hq => h q (pm.mem_iff.mp ((List.mergeSort_perm l' _).mem_iff.mp hq)))
theorem perm_ok {K : PySem.W.Frag} {G : Hp} {l l' : List (V × PyData)} (pm : l'.Perm l) (hd : ∀ p ∈ l, Dt K G p.1 p.2) (h1 : AllAlike (l.map (·.2))) (h2 : Sortable (l.map (·.2))) (h3 : ∀ d ∈ l.map (·.2), d.depth ≤ 100) (h4 : (l.map (·.2)).length ≤ 1000000) :
    (∀ p ∈ l', Dt K G p.1 p.2) ∧ AllAlike (l'.map (·.2)) ∧ Sortable (l'.map (·.2)) ∧ (∀ p ∈ l', p.2.depth ≤ 100) ∧ l'.length ≤ 1000000 :=
  ⟨fun p hp => hd p (pm.mem_iff.mp hp), fun d hd d' hd' => h1 d ((pm.map _).mem_iff.mp hd) d' ((pm.map _).mem_iff.mp hd'), h2.imp (fun h d hd => h d ((pm.map _).mem_iff.mp hd)) fun h d hd => h d ((pm.map _).mem_iff.mp hd),
    fun p hp => h3 _ (List.mem_map.mpr ⟨p, pm.mem_iff.mp hp, rfl⟩), by rw [pm.length_eq]; simpa using h4⟩
/-! ### sorted(xs) -/
theorem Col.lst {X : Cx} {H : Hp} {a : Addr} {l : List (V × PyData)} (h : SqL X.K H a (l.map (·.1))) (hl : l.length ≤ 1000000) : Col X (.ref a) H (fun l' => l'.Perm l) := by
  intro pins s σ v Q I rx go
  cases rx
  obtain ⟨its, rv, pl, hz⟩ := I.list h
  have hlen : its.length ≤ sizeLine := by rw [← rv.length, List.length_map, sizeLine_eq]; omega
  have old : ∀ b o, s.heap.get? b = some o → ((s.heap.push (seqObj "list" #[] 0)).update s.heap.objs.size (Obj.mapSeq (· ++ its.toArray))).get? b = some o := fun b o e => by
    rw [Heap.get?_update_ne _ _ _ _ (Nat.ne_of_lt (Heap.lt_size e))]
    exact Heap.get?_push_of_some _ e
  exact collect_list pl.isList (go _ its l (I.kept (t' := s.toks) old) (List.Perm.refl _) rv) hlen
def bSort (own : Bool) : Built := fun as => match as with
  | [a] => match lOf a with
    | some ds => if canSort ds = true then some (asL own (sortD ds)) else none
    | none => none
  | _ => none
theorem cb_sort {own : Bool} : CbS (.builtin "sorted") (bSort own) := by
  intro X hc hu G H σ ρ us as v Q s r e q
  unfold bSort at e
  split at e
  · rename_i a
    obtain ⟨u, rfl, rw1, _⟩ := r.one
    split at e
    · rename_i ds e1
      split at e
      · rename_i hcs
        cases e
        obtain ⟨b, vs, rfl, h, qa⟩ := rw1.lOf s.gh e1
        obtain ⟨l, rfl, rfl, hd⟩ := qa.pairs
        obtain ⟨h1, h2, h3, h4⟩ := canSort_inv hcs
        refine ⟨_, cr_sortC hu, .ref b, _, G, rfl, Col.lst (.inl (.inl h)) (by simpa using h4), s.gh, fun l' pm => perm_ok pm hd h1 h2 h3 h4, fun l' p pm hp => ?_⟩
        obtain ⟨G', pe⟩ := sorted_end (own := own) s hp hd h1 pm
        exact q _ _ _ pe
      · cases e
    · cases e
  · cases e
/-! ### sorted(d), d with tuples as keys -/
theorem Col.dT {X : Cx} (hc : X.calm = true) {H : Hp} {a : Addr} {kvs : List (List Key × V)} (h : H a = some (.dT kvs)) (hl : kvs.length ≤ 1000000) :
    Col X (.ref a) H (fun l' => ∃ bs : List Addr, IsKeys H kvs bs ∧ l' = (bs.zip kvs).map fun p => (V.ref p.1, PyData.tuple (p.2.1.map kD))) := by
  intro pins s σ v Q I rx go
  cases rx
  obtain ⟨z, hs, ks, pr, o, es, ep, ho, hx, hdt, he, hn⟩ := (show ObjOk X.prog X.w H s.heap a (.dT kvs) from I.hok a _ h)
  have l1 : es.size = ks.length := size_of_entries he
  have l2 : kvs.length = ks.length := Paired.length pr
  refine PySem.W.kdu_collect (A := X.A.in1) (kdl_raw hs hx hdt) (I.ok.hd hc) ho (by omega) fun h' tk acc hk it => ?_
  have ea : acc.toList = (ks.map fun x => x.2.1).map Value.ref := by
    have hlen : acc.toList.length = ks.length := by rw [Array.length_toList, it.1]; exact l1
    refine List.ext_getElem (by simpa using hlen) fun j h1 h2 => ?_
    have hj : acc[j]? = some acc.toList[j] := by rw [← Array.getElem?_toList]; exact List.getElem?_eq_getElem h1
    obtain ⟨en, hen, hv⟩ := it.2 j _ hj
    have qe := entry_at he j
    have hkj : ks[j]? = some (ks[j]'(by omega)) := List.getElem?_eq_getElem (by omega)
    rw [hen, hkj] at qe
    have e2 : en = entryOfKey (tupleKind (mixKind X.prog X.w)) (ks[j]'(by omega)) := Option.some.inj qe
    rw [hv, e2]
    simp
    rfl
  have len : (ks.map fun x => x.2.1).length = kvs.length := by rw [List.length_map, l2]
  have fst : (((ks.map fun x => x.2.1).zip kvs).map fun p => (V.ref p.1, PyData.tuple (p.2.1.map kD))).map (·.1) = (ks.map fun x => x.2.1).map V.ref := by
    rw [List.map_map]
    show ((ks.map fun x => x.2.1).zip kvs).map (fun p => V.ref p.1) = _
    have : (fun p : Addr × (List Key × V) => V.ref p.1) = V.ref ∘ Prod.fst := rfl
    rw [this, ← List.map_map, List.map_fst_zip (by omega)]
  exact go _ acc.toList _ (I.kept hk) ⟨_, isKeys_of pr, rfl⟩ (by rw [fst, ea]; exact vals_refs _)
end PP

end
section
set_option maxHeartbeats 1000000
set_option Elab.async false
set_option linter.all false
set_option maxRecDepth 100000
/-! PPs: the pure layer: sorted(d), sorted(set(xs)). -/
namespace PP
open PySem PySem.Spec PyProof.Rows L2
open PySem.W (dataLe AllAlike Sortable EachIs dataLt alike alikeAll sortVals dataKind keyToks keyToksAll)

/-! ### sorted(d), d with tuples as keys -/
def keyOkB : Key → Bool
  | .inl _ => true
  | .inr x => PyData.strOk x
theorem Dt.kD {K : PySem.W.Frag} {G : Hp} : ∀ {k : Key}, keyOkB k = true → Dt K G (kV k) (PP.kD k)
  | .inl i, _ => .int i
  | .inr x, h => .str x h
theorem DtAll.kD {K : PySem.W.Frag} {G : Hp} : ∀ {k : List Key}, k.all keyOkB = true → DtAll K G (k.map kV) (k.map PP.kD)
  | [], _ => .nil
  | k :: ks, h => by
    rw [List.all_cons, Bool.and_eq_true] at h
    exact .cons (Dt.kD h.1) (DtAll.kD h.2)
def tKeys (kvs : List (List Key × PyData)) : List PyData := kvs.map fun p => .tuple (p.1.map kD)
def bSortD (own : Bool) : Built := fun as => match as with
  | [.mt kvs] => if canSort (tKeys kvs) && kvs.all (fun p => p.1.all keyOkB) then some (asL own (sortD (tKeys kvs))) else none
  | _ => none
theorem KvR.fst {κ : Type} {K : PySem.W.Frag} {G : Hp} {ks : List (κ × V)} {kvs : List (κ × PyData)} (h : Paired (fun (p : κ × V) (q : κ × PyData) => p.1 = q.1 ∧ Dt K G p.2 q.2) ks kvs) : ks.map (·.1) = kvs.map (·.1) := by
  induction h with
  | nil => rfl
  | cons a b ih => rw [List.map_cons, List.map_cons, ih, a.1]
theorem cb_sortD {own : Bool} : CbS (.builtin "sorted") (bSortD own) := by
  intro X hc hu G H σ ρ us as v Q s r e q
  unfold bSortD at e
  split at e
  · rename_i kvs
    split at e
    · rename_i hcs
      cases e
      rw [Bool.and_eq_true] at hcs
      obtain ⟨u, rfl, rw1, _⟩ := r.one
      obtain ⟨b, ks, rfl, g, h, qa⟩ := rw1
      obtain ⟨h1, h2, h3, h4⟩ := canSort_inv hcs.1
      have hf : ks.map (·.1) = kvs.map (·.1) := KvR.fst qa
      have hlen : ks.length = kvs.length := by simpa using congrArg List.length hf
      have hl : ks.length ≤ 1000000 := by
        rw [hlen]
        simpa [tKeys] using h4
      have key : ∀ l', (∃ bs : List Addr, IsKeys H ks bs ∧ l' = (bs.zip ks).map fun p => (V.ref p.1, PyData.tuple (p.2.1.map kD))) → l'.map (·.2) = tKeys kvs ∧ ∀ p ∈ l', Dt X.K G p.1 p.2 := fun l' ⟨bs, hk, e⟩ => by
        have hlb : ks.length = bs.length := Paired.length hk
        constructor
        · rw [e, List.map_map]
          have e1 : (bs.zip ks).map ((fun q : V × PyData => q.2) ∘ fun p : Addr × (List Key × V) => (V.ref p.1, PyData.tuple (p.2.1.map kD))) = ((bs.zip ks).map (·.2)).map (fun p => PyData.tuple (p.1.map kD)) := by
            rw [List.map_map]; rfl
          have e2 : ks.map (fun p => PyData.tuple (p.1.map kD)) = (ks.map (·.1)).map fun k => .tuple (k.map kD) := by rw [List.map_map]; rfl
          have e3 : tKeys kvs = (kvs.map (·.1)).map fun k => .tuple (k.map kD) := by unfold tKeys; rw [List.map_map]; rfl
          rw [e1, List.map_snd_zip (by omega), e2, e3, hf]
        · intro p hp
          rw [e] at hp
          obtain ⟨⟨bb, kv⟩, hz, rfl⟩ := List.mem_map.mp hp
          obtain ⟨j, hj, ej⟩ := List.mem_iff_getElem.mp hz
          have hjb : j < bs.length := by rw [List.length_zip] at hj; omega
          have hjk : j < ks.length := by rw [List.length_zip] at hj; omega
          rw [List.getElem_zip] at ej
          have eb : bs[j] = bb := congrArg Prod.fst ej
          have ek : ks[j] = kv := congrArg Prod.snd ej
          have at_ : ∀ {l : List (List Key × V)} {m : List Addr}, IsKeys H l m → ∀ j (h1 : j < l.length) (h2 : j < m.length), H m[j] = some (.tup (l[j].1.map kV)) := fun {l m} q => by
            unfold IsKeys at q
            induction q with
            | nil => intro j h1; exact absurd h1 (Nat.not_lt_zero _)
            | cons a b ih =>
              intro j h1 h2
              cases j with
              | zero => exact a
              | succ j => exact ih j (by simpa using h1) (by simpa using h2)
          have hb := at_ hk j hjk hjb
          rw [eb, ek] at hb
          have hall : kv.1.all keyOkB = true := by
            have hm : kv.1 ∈ kvs.map (·.1) := by
              rw [← hf]
              exact List.mem_map.mpr ⟨kv, by rw [← ek]; exact List.getElem_mem _, rfl⟩
            obtain ⟨p2, hp2, e2⟩ := List.mem_map.mp hm
            rw [← e2]
            exact List.all_eq_true.mp hcs.2 p2 hp2
          exact .tup (s.ht _ _ hb) (DtAll.kD hall)
      refine ⟨_, cr_sortC hu, .ref b, _, G, rfl, Col.dT hc h hl, s.gh, fun l' hl' => ?_, fun l' p hl' hp => ?_⟩
      · obtain ⟨e1, e2⟩ := key l' hl'
        refine ⟨e2, e1 ▸ h1, e1 ▸ h2, fun p hp => h3 _ (e1 ▸ List.mem_map.mpr ⟨p, hp, rfl⟩), ?_⟩
        have := congrArg List.length e1
        rw [List.length_map] at this
        omega
      · obtain ⟨e1, e2⟩ := key l' hl'
        obtain ⟨G', pe⟩ := sorted_end (own := own) s hp e2 (e1 ▸ h1) (List.Perm.refl l')
        rw [e1] at pe
        exact q _ _ _ pe
    · cases e
  · cases e
/-! ### a set gone through -/
theorem perm_each {α β : Type} {R : α → β → Prop} {as bs : List α} (p : as.Perm bs) : ∀ {l : List β}, EachIs R bs l → ∃ l', l'.Perm l ∧ EachIs R as l' := by
  induction p with
  | nil => intro l h; exact ⟨l, .refl _, h⟩
  | cons x _ ih =>
    intro l h
    cases h with
    | cons a b =>
      obtain ⟨l', p', e'⟩ := ih b
      exact ⟨_ :: l', p'.cons _, .cons a e'⟩
  | swap x y zs =>
    intro l h
    cases h with
    | cons a b =>
      cases b with
      | cons c d => exact ⟨_, List.Perm.swap _ _ _, .cons c (.cons a d)⟩
  | trans _ _ ih1 ih2 =>
    intro l h
    obtain ⟨l1, p1, e1⟩ := ih2 h
    obtain ⟨l2, p2, e2⟩ := ih1 e1
    exact ⟨l2, p2.trans p1, e2⟩
theorem Col.set {X : Cx} (hc : X.calm = true) {H : Hp} {a : Addr} {l : List (V × PyData)} {C : Prop}
    (h : ∀ (pins : List (Addr × Obj)) (s : Shared) (σ : L2.St), Inv X pins σ H s → ∃ (es : Array (Int × Value)) (ep : Nat) (t : SetTable), SetAt s.heap a es ep t ∧ t.fits es.size = true ∧ es.size < scanBound ∧ Ris t.place.toList ∧ (X.w.params.followText "set-order" = true ∨ t.led = true) ∧
      C ∧ ∃ l', l'.Perm l ∧ EachIs (fun v (p : V × PyData) => RelV p.1 v) (es.toList.map (·.2)) l') : Col X (.ref a) H (fun l' => l'.Perm l ∧ C) := by
  intro pins s σ v Q I rx go
  cases rx
  obtain ⟨es, ep, t, h1, h2, h3, h4, h5, c, l', pl, he⟩ := h pins s σ I
  refine collect_set (A := X.A.in1) (I.ok.hd hc) h1 h2 h3 h4 h5 fun s1 out k1 hz g1 o1 pm => ?_
  obtain ⟨l2, p2, e2⟩ := perm_each pm he
  exact go s1 out l2 (I.call' (ch := []) o1 (Un.kept k1) (I.hok.kept k1) (by rw [g1]; exact I.bare) fun _ z => nomatch z) ⟨p2.trans pl, c⟩ (relR e2)
def iP (k : Int) : V × PyData := (.int k, .int k)
theorem Col.setI {X : Cx} (hc : X.calm = true) {H : Hp} {a : Addr} {S : Int → Bool} {n : Nat} {ns : List Int} (ha : H a = some (SetO X.w a S n)) (nd : ns.Nodup) (hm : ∀ k, S k = true ↔ k ∈ ns) : Col X (.ref a) H (fun l' => l'.Perm (ns.map iP) ∧ True) := by
  refine Col.set hc fun pins s σ I => ?_
  obtain ⟨o, es, ep, t, ho, hex, hd, g, nd2, hm2, hb, hf, hn, hr, hl⟩ := setO_get I ha
  refine ⟨es, ep, t, ⟨o, ho, hex.1, hd⟩, hf, hb, hr, hl, trivial, es.toList.map fun e => iP (keyOf e), ?_, ?_⟩
  · have e : (es.toList.map fun e => iP (keyOf e)) = (es.toList.map keyOf).map iP := by rw [List.map_map]; rfl
    rw [e]
    exact ((List.perm_ext_iff_of_nodup nd2 nd).mpr fun k => by rw [← hm2, hm]).map _
  · have all : ∀ l : List (Int × Value), (∀ e ∈ l, GoodE e) → EachIs (fun v (p : V × PyData) => RelV p.1 v) (l.map (·.2)) (l.map fun e => iP (keyOf e)) := by
      intro l
      induction l with
      | nil => intro _; exact .nil
      | cons e l ih =>
        intro h
        refine .cons ?_ (ih fun e' he => h e' (List.mem_cons_of_mem _ he))
        obtain ⟨k, tk, h1, _⟩ := h e List.mem_cons_self
        show ∃ t, e.2 = Value.int (keyOf e) t
        unfold keyOf
        rw [h1]
        exact ⟨tk, rfl⟩
    exact all _ g
def tP (p : Addr × List Int) : V × PyData := (.ref p.1, .tuple (p.2.map .int))
theorem Col.setT {X : Cx} (hc : X.calm = true) {H : Hp} {a : Addr} {L : List (Addr × List Int)} (ha : H a = some (SetTO X.prog X.w a L)) (ht : ∀ p ∈ L, H p.1 = some (.tup (p.2.map .int))) : Col X (.ref a) H (fun l' => l'.Perm (L.map tP) ∧ (L.map (·.2)).Nodup) := by
  refine Col.set hc fun pins s σ I => ?_
  have R0 : SetT0 X.prog X.w s.heap a L := (I.hok a _ ha).1
  obtain ⟨es, ep, t, R⟩ := R0.full fun p hp => Inv.isT I (.inl (.inl (ht p hp)))
  obtain ⟨o, ho, hex, hd⟩ := R.ob
  have few := R.few
  have sz := R.size
  refine ⟨es, ep, t, ⟨o, ho, hex.1, hd⟩, R.fits, by unfold scanBound; omega, R.tab.ris, R.led, R.nd, _, .refl _, ?_⟩
  rw [R.rows]
  unfold rowsOf
  rw [List.map_map]
  clear R R0 ha ht few sz
  induction L with
  | nil => exact .nil
  | cons p L ih => exact .cons rfl ih
/-- set(xs), xs a list of ints -/
theorem cr_setI {X : Cx} (hc : X.calm = true) : CallR X (.type "set") fun xs H Q => ∃ (l : Addr) (ns : List Int), xs = [V.ref l] ∧ SqL X.K H l (ns.map V.int) ∧ ns.length ≤ 4000 ∧ ∀ (a : Addr) (c : Nat), H a = none → Q (.ref a) (upd H a (SetO X.w a (fun j => decide (j ∈ ns)) c)) := by
  intro pins s σ H xs us Q I r ⟨l, ns, e, hl, few, q⟩
  subst e
  rw [Vals.ref1 r]
  obtain ⟨its, rv, pl, hz⟩ := I.list hl
  refine set_of_list (vs := its.toArray) ns (I.ok.hd hc) pl.isList (by simpa using rv.ints) (by unfold scanBound; omega) fun h' tk c R hle k => ?_
  exact ⟨.ref s.heap.objs.size, upd H s.heap.objs.size (SetO X.w s.heap.objs.size (fun j => decide (j ∈ ns)) c), I.laid (t' := tk) k (Nat.le_refl _) (setO_new R), rfl, q _ c (I.hok.fresh (Nat.le_refl _))⟩
end PP

end
section
set_option maxHeartbeats 1000000
set_option Elab.async false
set_option linter.all false
set_option maxRecDepth 100000
/-! PPt: the pure layer: sorted(set(xs)). -/
namespace PP
open PySem PySem.Spec PyProof.Rows L2
open PySem.W (dataLe AllAlike Sortable EachIs dataLt alike alikeAll sortVals dataKind keyToks keyToksAll)

def dd {α : Type} [DecidableEq α] : List α → List α
  | [] => []
  | x :: xs => if x ∈ dd xs then dd xs else x :: dd xs
theorem mem_dd {α : Type} [DecidableEq α] {l : List α} {x : α} : x ∈ dd l ↔ x ∈ l := by
  induction l with
  | nil => exact Iff.rfl
  | cons y l ih =>
    unfold dd
    split
    · rename_i h
      rw [ih, List.mem_cons]
      constructor
      · exact .inr
      · rintro (e | h2)
        · rw [e]; exact ih.mp (e ▸ h) |> fun z => by
            have := h
            rw [← e] at this ⊢
            exact ih.mp this
        · exact h2
    · rw [List.mem_cons, List.mem_cons, ih]
theorem nodup_dd {α : Type} [DecidableEq α] : ∀ l : List α, (dd l).Nodup
  | [] => List.nodup_nil
  | x :: l => by
    unfold dd
    split
    · exact nodup_dd l
    · rename_i h
      exact List.nodup_cons.mpr ⟨h, nodup_dd l⟩
theorem dd_len {α : Type} [DecidableEq α] : ∀ l : List α, (dd l).length ≤ l.length
  | [] => Nat.le_refl _
  | x :: l => by
    have := dd_len l
    unfold dd
    split
    · rw [List.length_cons]; omega
    · rw [List.length_cons, List.length_cons]; omega
def rowsD : List PyData → Option (List (List Int))
  | [] => some []
  | .tuple ds :: r => match intsOf ds, rowsD r with
    | some is, some rs => some (is :: rs)
    | _, _ => none
  | _ => none
def rowD (r : List Int) : PyData := .tuple (r.map .int)
/-- what set(xs) holds -/
def setD (ds : List PyData) : Option (List PyData) := match intsOf ds with
  | some ns => if decide (ns.length ≤ 4000) = true then some ((dd ns).map .int) else none
  | none => match rowsD ds with
    | some rs => if decide (rs.length < 64) = true then some ((dd rs).map rowD) else none
    | none => none
theorem DtAll.rows {K : PySem.W.Frag} {G : Hp} : ∀ {us : List V} {ds : List PyData} {rs : List (List Int)}, DtAll K G us ds → rowsD ds = some rs → ∃ ks : List (Addr × List Int), us = ks.map (fun p => V.ref p.1) ∧ rs = ks.map (·.2) ∧ ∀ p ∈ ks, G p.1 = some (.tup (p.2.map .int))
  | _, _, rs, .nil, e => by
    have e' : rs = [] := (Option.some.inj e).symm
    subst e'
    exact ⟨[], rfl, rfl, fun p hp => nomatch hp⟩
  | _, _, rs, .cons a b, e => by
    unfold rowsD at e
    split at e
    · rename_i h; cases h
    · rename_i ds r h
      cases h
      split at e
      · rename_i is rs' e1 e2
        cases e
        obtain ⟨ks, h1, h2, h3⟩ := DtAll.rows b e2
        cases a with
        | tup hs ha =>
          rename_i ad xs
          have hx : xs = is.map .int := by
            have e3 := intsOf_map e1
            subst e3
            exact ha.ints
          rw [hx] at hs
          refine ⟨(ad, is) :: ks, by rw [List.map_cons, h1], by rw [List.map_cons, h2], fun p hp => ?_⟩
          rcases List.mem_cons.mp hp with e | hp
          · rw [e]; exact hs
          · exact h3 p hp
      · cases e
    · cases e
theorem perm_of_mem {α : Type} {l m : List α} (h1 : l.Nodup) (h2 : m.Nodup) (h : ∀ x, x ∈ l ↔ x ∈ m) : l.Perm m := (List.perm_ext_iff_of_nodup h1 h2).mpr h
def finSS (own : Bool) (v : Val) (ρ : Env) : Option (Rs Val) := match res ρ v with
  | some a => match lOf a with
    | some ds => match setD ds with
      | some es => if canSort es = true then some (.ok (asL own (sortD es)) ρ) else none
      | none => none
    | none => none
  | none => none
theorem finSS_inv {own : Bool} {v : Val} {ρ : Env} {q : Val → Env → Prop} {e : PyX → Env → Prop} (w : WP (finSS own v ρ) q e) : ∃ a ds es, res ρ v = some a ∧ lOf a = some ds ∧ setD ds = some es ∧ canSort es = true ∧ q (asL own (sortD es)) ρ := by
  unfold finSS at w
  split at w
  · split at w
    · split at w
      · split at w
        · exact ⟨_, _, _, by assumption, by assumption, by assumption, by assumption, w⟩
        · exact w.elim
      · exact w.elim
    · exact w.elim
  · exact w.elim
def cSS (own : Bool) (f : Ev) : Ev := fun ρ => bnd (f ρ) fun v ρ1 => finSS own v ρ1
/-- the set at hand, as wished by sorted -/
theorem set_go {X : Cx} (hc : X.calm = true) (hu : X.A.units + 200 < cLine) {own : Bool} {G H : Hp} {σ : L2.St} {ρ : Env} {u : V} {a : Val} {ds es : List PyData} {Q : VK} (s : S8 X.K G H σ ρ) (r : RelW X.K G H σ u a) (e1 : lOf a = some ds) (e2 : setD ds = some es) (hcs : canSort es = true)
    (q : ∀ u G' H', PostE X.K σ G H ρ G' H' ρ u (asL own (sortD es)) → Q u H') : rBi X (.type "set") [u] H fun y H2 => rSortC X [y] H2 Q := by
  obtain ⟨b, vs, rfl, h, qa⟩ := r.lOf s.gh e1
  obtain ⟨h1, h2, h3, h4⟩ := canSort_inv hcs
  have fin : ∀ {ad : Addr} {o : HO} {l : List (V × PyData)} {LP : List (V × PyData) → Prop} (hn : H ad = none) (no : ∀ xs, o ≠ .tup xs) (col : Col X (.ref ad) (upd H ad o) LP) (hl : ∀ l', LP l' → l'.Perm l ∧ (l.map (·.2)).Perm es ∧ ∀ p ∈ l, Dt X.K G p.1 p.2), rSortC X [.ref ad] (upd H ad o) Q := fun {ad o l LP} hn no col hl => by
    have pg := s.garb (o := o) hn no
    have ok : ∀ l', LP l' → (∀ p ∈ l', Dt X.K G p.1 p.2) ∧ AllAlike (l'.map (·.2)) ∧ Sortable (l'.map (·.2)) ∧ (∀ p ∈ l', p.2.depth ≤ 100) ∧ l'.length ≤ 1000000 := fun l' hl' => by
      obtain ⟨pm, pe, hd⟩ := hl l' hl'
      refine perm_ok pm hd (fun d hd d' hd' => h1 d (pe.mem_iff.mp hd) d' (pe.mem_iff.mp hd')) (h2.imp (fun h d hd => h d (pe.mem_iff.mp hd)) fun h d hd => h d (pe.mem_iff.mp hd)) (fun d hd => h3 d (pe.mem_iff.mp hd)) ?_
      rw [pe.length_eq]; exact h4
    refine ⟨.ref ad, LP, G, rfl, col, pg.st.gh, ok, fun l' p hl' hp => ?_⟩
    obtain ⟨pm, pe, hd⟩ := hl l' hl'
    have k := ok l' hl'
    obtain ⟨G', z⟩ := sorted_end (own := own) pg.st hp k.1 k.2.1 (List.Perm.refl l')
    have es' : sortD (l'.map (·.2)) = sortD es := sortD_perm h1 ((pm.map _).trans pe)
    rw [es'] at z
    exact q _ _ _ (pg.transE z)
  unfold setD at e2
  split at e2
  · rename_i ns en
    split at e2
    · rename_i hn4
      cases e2
      have hv : vs = ns.map .int := by
        have e3 := intsOf_map en
        subst e3
        exact qa.ints
      rw [hv] at h
      refine ⟨_, cr_setI hc, b, ns, rfl, .inl (.inl h), of_decide_eq_true hn4, fun ad c hn => ?_⟩
      refine fin (l := (dd ns).map iP) hn (fun _ z => nomatch z) (Col.setI hc (n := c) (ns := dd ns) upd_same (nodup_dd ns) fun k => by rw [decide_eq_true_iff]; exact mem_dd.symm) fun l' hl' => ⟨hl'.1, ?_, fun p hp => ?_⟩
      · rw [List.map_map]
        exact List.Perm.refl _
      · obtain ⟨k, _, rfl⟩ := List.mem_map.mp hp
        exact .int k
    · cases e2
  · split at e2
    · rename_i rs er
      split at e2
      · rename_i hn64
        cases e2
        obtain ⟨ks, hv, hr, hk⟩ := qa.rows er
        rw [hv] at h
        have hlen : ks.length < 64 := by
          have := of_decide_eq_true hn64
          rw [hr, List.length_map] at this
          exact this
        refine ⟨_, cr_setOfT hc (by omega), b, ks, rfl, .inl (.inl h), fun p hp => .inl (.inl (s.gh _ _ (hk p hp))), hlen, fun ad L hn hL1 hL2 => ?_⟩
        have hLt : ∀ p ∈ L, upd H ad (SetTO X.prog X.w ad L) p.1 = some (.tup (p.2.map .int)) := fun p hp => by
          have z := s.gh _ _ (hk p (hL1 p hp))
          rw [upd_ne (ne_of_none z hn)]
          exact z
        refine fin (l := L.map tP) hn (fun _ z => nomatch z) (Col.setT hc upd_same hLt) fun l' hl' => ⟨hl'.1, ?_, fun p hp => ?_⟩
        · rw [List.map_map]
          have e4 : L.map ((fun q : V × PyData => q.2) ∘ tP) = (L.map (·.2)).map rowD := by rw [List.map_map]; rfl
          rw [e4]
          refine (perm_of_mem hl'.2 (nodup_dd rs) fun x => ?_).map _
          rw [mem_dd, hr]
          constructor
          · intro hx
            obtain ⟨p, hp, rfl⟩ := List.mem_map.mp hx
            exact List.mem_map.mpr ⟨p, hL1 p hp, rfl⟩
          · intro hx
            obtain ⟨p, hp, rfl⟩ := List.mem_map.mp hx
            exact hL2 p hp
        · obtain ⟨k, hk2, rfl⟩ := List.mem_map.mp hp
          exact .tup (hk k (hL1 k hk2)) (DtAll.ofInts _)
      · cases e2
    · cases e2
section
variable {Γ : Gam} {N : List Str} {np : Nat} {sc : Scope}
theorem sE_ss {own : Bool} {e : Expr} {p p2 pos pos2 : Pos} {f : Ev} (hb : "sorted" ∈ Γ.bl) (hb2 : "set" ∈ Γ.bl) (hg : glB sc ("sorted" : Str) = true) (hg2 : glB sc ("set" : Str) = true) (he : SndE Γ N sc e f)
    (h1 : ∀ env, starEach [e] env = (false, eval e env) :: starEach [] env := by intro _; rfl)
    (h2 : ∀ env, starEach [.Call (.Name "set" p2) [e] [] pos2] env = (false, eval (.Call (.Name "set" p2) [e] [] pos2) env) :: starEach [] env := by intro _; rfl) : SndE Γ N sc (.Call (.Name "sorted" p) [.Call (.Name "set" p2) [e] [] pos2] [] pos) (cSS own f) := by
  intro X W kn G H σ ρ Q s w
  refine tE_of (pe_callB (cr_sortC kn.units) (gl_of kn.sc hg) (kn.bl _ hb) boot_sorted (pa_cons (pe_callTy cr_bi (gl_of kn.sc hg2) (kn.bl _ hb2) boot_set (pa_cons pe_star pa_nil (h1 X.env)) (by decide) (by decide) (h1 X.env) (by rfl)) pa_nil (h2 X.env)) (by decide) (by decide) (h2 X.env) (by rfl)) ?_
  refine (he.go kn s.postX w).mono fun u H1 ⟨G1, ρ1, v, pe, p1, w1⟩ => ?_
  obtain ⟨a, ds, es, ea, el, es', hcs, w2⟩ := finSS_inv w1
  exact set_go kn.calm kn.units p1.st (res.rel p1.st pe.rv ea).1 el es' hcs fun u' G' H' z => w2 u' G' H' (p1.transE z)
end
end PP

end
section
set_option Elab.async false
set_option linter.all false
set_option maxRecDepth 100000
/-! PPu: the pure layer: the number of a set of texts. -/
namespace PP
open PySem PySem.Spec PyProof.Rows L2

theorem strs_len : ∀ {us : List Value} {ys : List Str}, StrsAre us ys → us.length = ys.length
  | _, _, .nil => rfl
  | _, _, .cons _ _ r => by rw [List.length_cons, List.length_cons, strs_len r]
theorem strs_at : ∀ {us : List Value} {ys : List Str}, StrsAre us ys → ∀ {i : Nat} {v : Value}, us[i]? = some v → ∃ k t, ys[i]? = some k ∧ v = .str k t
  | _, _, .nil, _, _, h => by simp at h
  | _, _, .cons y t r, 0, v, h => ⟨y, t, rfl, (Option.some.inj (by simpa using h)).symm⟩
  | _, _, .cons y t r, i + 1, v, h => by
    obtain ⟨k, t', h1, h2⟩ := strs_at r (i := i) (v := v) (by simpa using h)
    exact ⟨k, t', by simpa using h1, h2⟩
theorem dd_snoc {α : Type} [DecidableEq α] (l : List α) (x : α) : (dd (l ++ [x])).length = if x ∈ l then (dd l).length else (dd l).length + 1 := by
  by_cases h : x ∈ l
  · rw [if_pos h]
    refine (perm_of_mem (nodup_dd _) (nodup_dd _) fun y => ?_).length_eq
    rw [mem_dd, mem_dd, List.mem_append, List.mem_singleton]
    exact ⟨fun z => z.elim id fun e => e ▸ h, .inl⟩
  · rw [if_neg h]
    have : (x :: dd l).length = (dd l).length + 1 := rfl
    rw [← this]
    refine (perm_of_mem (nodup_dd _) (List.nodup_cons.mpr ⟨fun z => h (mem_dd.mp z), nodup_dd l⟩) fun y => ?_).length_eq
    rw [mem_dd, List.mem_append, List.mem_singleton, List.mem_cons, mem_dd]
    exact ⟨fun z => z.elim .inr .inl, fun z => z.elim .inr .inl⟩
section
variable {P : Program} {w : World} {A : Around} {E : Value → Shared → Prop} {s : Shared}
theorem loop_strs {I : Addr} {fp wr : List Addr} {Gn : Array GenState → Array GenState → Prop} {n : Nat} {Pv : Nat → Value → Prop} {St : Nat → Shared → Prop} {R : Result → Shared → Prop} (W : WalksS P w A.in1 I fp wr Gn n Pv St) (S : Addr) (out : S ∉ fp) (ns : List Str) (len : n = ns.length) (few : ns.length + 1 < scanBound)
    (val : ∀ i v, Pv i v → ∃ k t, ns[i]? = some k ∧ v = .str k t) : ∀ (k i : Nat) (s : Shared), n - i = k → i ≤ n → St i s → s.heap.SetOf (strKind P w) S (fun j => decide (j ∈ ns.take i)) (dd (ns.take i)).length →
      (∀ s', Moved (S :: wr) Gn s s' → s'.heap.SetOf (strKind P w) S (fun j => decide (j ∈ ns)) (dd ns).length → R (.ok (.ret .none)) s') → codeAny (model P w) A (.builtin "set.update.loop" ⟨[.ref S, .ref I], []⟩) R s := by
  have outw : S ∉ wr := fun h => out (W.sub _ h)
  have sub : ∀ b ∈ wr, b ∈ S :: wr := fun b hb => List.mem_cons_of_mem _ hb
  have keep : ∀ {h h' : Heap} {f : Str → Bool} {c : Nat}, h.SetOf (strKind P w) S f c → (∀ o, h.get? S = some o → h'.get? S = some o) → h'.SetOf (strKind P w) S f c := fun ⟨o, es, ep, t, ho, r⟩ k => ⟨o, es, ep, t, k o ho, r⟩
  intro k
  induction k with
  | zero =>
    intro i s hk hi st hS go
    obtain rfl : i = n := by omega
    refine codeAny_builtin F.entry_set_update_loop ?_
    rw [Around.under_plainId F.plain_set_update_loop _]
    show wpAny _ A.in1 (pyNext (.ref I) >>= _) _ _ s
    refine wpAny_bind (W.done s _ _ st fun s1 mv => ?_)
    show wpAny _ A.in1 (ret Value.none) _ _ s1
    rw [List.take_of_length_le (show ns.length ≤ i by omega)] at hS
    exact wpAny_pure (go s1 (mv.mono sub) (keep hS fun o e => mv.heap S o outw e))
  | succ k ih =>
    intro i s hk hi st hS go
    have lt : i < n := by omega
    refine codeAny_builtin F.entry_set_update_loop ?_
    rw [Around.under_plainId F.plain_set_update_loop _]
    show wpAny _ A.in1 (pyNext (.ref I) >>= _) _ _ s
    refine wpAny_bind (W.item i s _ _ lt st fun v s1 hP st1 mv => ?_)
    obtain ⟨z, t, hz, rfl⟩ := val i v hP
    have hS1 := keep (h' := s1.heap) hS fun o e => mv.heap S o outw e
    show wpAny _ A.in1 (holding [Value.str z t] (setAdd S (.str z t)) >>= _) _ _ s1
    refine wpAny_bind (wpAny_holding ?_)
    unfold setAdd
    refine wpAny_holding (wpAny_bind ((strKind P w).pyHash (k := z) (strKind_is _ _ _ _) ?_))
    have dlen := dd_len (ns.take i)
    have tlen : (ns.take i).length ≤ ns.length := by rw [List.length_take]; omega
    refine wpAny_setAddHashed_of (knd := strKind P w) (s := { s1 with toks := s1.toks + 1 }) (strKind_is _ _ _ _) rfl hS1 (by omega) fun h' hsb hS2 => ?_
    have hS3 : h'.SetOf (strKind P w) S (fun j => decide (j ∈ ns.take (i + 1))) (dd (ns.take (i + 1))).length := by
      have tk : ns.take (i + 1) = ns.take i ++ [z] := by rw [List.take_add_one, hz]; rfl
      refine PyProof.Rows.SetOf_congr hS2 (fun j => ?_) ?_
      · rw [tk]
        simp [List.mem_append]
      · rw [tk, dd_snoc]
        by_cases hm : z ∈ ns.take i
        · rw [if_pos hm, decide_eq_true hm]; rfl
        · rw [if_neg hm, decide_eq_false hm]; rfl
    refine wpAny_pure ⟨plainId_quiet F.plain_set_update_loop _, ih (i + 1) _ (by omega) lt (W.frame _ s1 _ _ st1 (Nat.le_succ _) fun b hb o e => ?_) hS3 fun s2 mv2 hSf => ?_⟩
    · rw [hsb.2 b (fun h : b = S => out (h ▸ hb))]; exact e
    · refine go s2 (Moved.trans W.gtrans ((mv.mono sub).then_heap (Nat.le_succ _) fun b o hb e => ?_) mv2) hSf
      rw [hsb.2 b (fun h : b = S => hb (h ▸ List.mem_cons_self))]; exact e
set_option maxHeartbeats 3200000 in
theorem set_of_strs {l : Addr} {vs : Array Value} (ns : List Str) {Q : Value → Shared → Prop} (nh : A.handled = none) (il : s.heap.IsTuple l vs) (iv : StrsAre vs.toList ns) (few : ns.length + 1 < scanBound)
    (go : ∀ (h' : Heap) (tk : Nat), h'.SetOf (strKind P w) s.heap.objs.size (fun j => decide (j ∈ ns)) (dd ns).length → (∀ b o, s.heap.get? b = some o → h'.get? b = some o) → Q (.ref s.heap.objs.size) { s with heap := h', toks := tk }) :
    wpAny (model P w) A (call (.type "set") [.ref l]) Q E s := by
  have esz : vs.size = ns.length := by
    rw [← Array.length_toList]
    exact strs_len iv
  obtain ⟨c0, tl0, mr⟩ := F.called_set.mro
  have md := F.called_set.made
  have sb := F.called_set.sub
  refine wpAny_call (codeAny_of_tree (show wpAny _ _ (callAny (.type "set") _) _ _ _ from ?_))
  refine wpAny_pure ⟨Code.quiet_builtin _ (by decide +kernel), codeAny_builtin F.entry_type_call ?_⟩
  rw [Around.under_plain (weight_type_call_type "set" [.ref l] []) rfl]
  have nt := F.called_set.notType
  have cc := F.called_set.canCreate
  have tc := F.typeCall_set_1 (.ref l)
  repeat (any_goals (first | assumption | wp_step))
  refine codeAny_mono (code_set_led1 (.ref l) (E := E) (Q₁ := fun ob sa => ob = .ref s.heap.objs.size ∧ sa = { s with heap := s.heap.push (set0 w) }) ⟨rfl, rfl⟩) fun res sa ha => ?_
  cases res with
  | error x => exact ha
  | ok fl =>
    cases fl with
    | ret ob =>
      obtain ⟨rfl, rfl⟩ := ha
      have at0 : (s.heap.push (set0 w)).get? s.heap.objs.size = some (set0 w) := Heap.get?_push_size _ rfl
      have ty0 : Shared.TypeIs { s with heap := s.heap.push (set0 w) } (.ref s.heap.objs.size) "set" := ⟨_, at0, rfl⟩
      have lk := F.called_set.init.lookup
      have bd := F.called_set.init.bind (.ref s.heap.objs.size)
      repeat (any_goals (first | assumption | wp_step))
      refine codeAny_mono (codeAny_call_builtin (R := wants (fun y sb => y = .none ∧ ∃ h' tk, sb = { s with heap := h', toks := tk } ∧ h'.SetOf (strKind P w) s.heap.objs.size (fun j => decide (j ∈ ns)) (dd ns).length ∧ ∀ b o, s.heap.get? b = some o → h'.get? b = some o) E)
        F.called_set.init.plain F.entry_set_init (check_set_init_1 ty0 ?_)) fun res2 s2 h2 => ?_
      · obtain ⟨ol, hol, hcl, nl, hdl⟩ := il
        obtain ⟨oc, od, odt, osl⟩ := ol
        simp only at hcl hdl
        subst hcl hdl
        have hol2 : (s.heap.push (set0 w)).get? l = some { cls := .type "tuple", dict := od, data := .seq vs nl, slots := osl } := Heap.get?_push_of_some _ hol
        have n1 := F.sub_tuple_set
        have n2 := F.sub_tuple_frozenset
        have n3 : (Value.type "tuple" == Value.type "dict") = false := by decide
        have il2 : (s.heap.push (set0 w)).IsTuple l vs := ⟨_, hol2, rfl, nl, rfl⟩
        unfold Builtin.«set.__init__» noKeywords Builtin.Frozenset.updateFrom
        generalize hPI : pyIter = PI
        wp_walk
        subst hPI
        refine wpAny_pyIter_tuple il2 (wpAny_bind (wpAny_runValue ?_))
        have ll : l < s.heap.objs.size := Heap.lt_size hol
        have h3 : A.in1.in1.in1.handled = none := by simp [nh]
        have ne1 : l ≠ (s.heap.push (set0 w)).objs.size := by rw [Heap.size_push]; exact Nat.ne_of_lt (Nat.lt_succ_of_lt ll)
        have nf : s.heap.objs.size ∉ [(s.heap.push (set0 w)).objs.size, l] := by
          rw [Heap.size_push]
          intro hm
          rcases List.mem_cons.mp hm with e | hm
          · exact Nat.ne_of_lt (Nat.lt_succ_self _) e
          · exact Nat.ne_of_gt ll (List.mem_singleton.mp hm)
        have hv : ∀ (i : Nat) (v : Value), vs[i]? = some v → ∃ k t, ns[i]? = some k ∧ v = .str k t := fun i v e => strs_at iv (by rw [Array.getElem?_toList]; exact e)
        refine loop_strs ((Walks.tuple h3 _ l ne1 vs).toS) s.heap.objs.size nf ns esz few hv (vs.size - 0) 0 _ rfl (Nat.zero_le _) ⟨⟨_, Heap.get?_push_size _ rfl, rfl, rfl⟩, il2.push _⟩ ?first ?last
        case first =>
          have g0 : ((s.heap.push (set0 w)).push { cls := .type "tuple_iterator", data := .fields #[.ref l, .int 0 0] }).get? s.heap.objs.size = some (set0 w) := Heap.get?_push_of_some _ at0
          exact PyProof.Rows.SetOf_congr ((PyProof.Rows.setObjOf_fresh (knd := strKind P w) (!w.params.followText "set-order")).setOf g0 (by unfold scanBound; omega)) (fun _ => rfl) rfl
        case last =>
          intro s9 hm hS
          obtain ⟨h', g2, d', tk', os'⟩ := s9
          obtain rfl : g2 = s.gens := hm.gens
          obtain rfl : d' = s.drawn := hm.drawn
          obtain rfl : os' = s.os := hm.os
          show wpAny _ _ _ _ _ _
          refine wpAny_pure ?_
          show wpAny _ _ (ret Value.none) _ _ _
          refine wpAny_pure ⟨rfl, h', tk', rfl, hS, fun b o e => ?_⟩
          have b0 : b < s.heap.objs.size := Heap.lt_size e
          refine hm.heap b o (fun hb => ?_) (Heap.get?_push_of_some _ (Heap.get?_push_of_some _ e))
          rcases List.mem_cons.mp hb with z | hb
          · exact Nat.ne_of_lt b0 z
          · have z := List.mem_singleton.mp hb
            rw [Heap.size_push] at z
            exact Nat.ne_of_lt (Nat.lt_succ_of_lt b0) z
      · cases res2 with
        | error x => exact h2
        | ok f2 =>
          cases f2 with
          | ret y =>
            obtain ⟨rfl, h', tk, rfl, q1, q3⟩ := h2
            repeat (any_goals (first | assumption | wp_step))
            exact go _ _ q1 q3
          | _ => exact h2.elim
    | _ => exact ha.elim
end
end PP

end
section
set_option maxHeartbeats 1000000
set_option Elab.async false
set_option linter.all false
set_option maxRecDepth 100000
/-! PPv: the pure layer: len(set(texts)); order of data. -/
namespace PP
open PySem PySem.Spec PyProof.Rows L2
open PySem.W (dataLt alike alikeAll)

/-! ### len(set(t)), t a tuple of texts -/
def strsOf : List PyData → Option (List Str)
  | [] => some []
  | .str i :: ds => match strsOf ds with
    | some is => some (i :: is)
    | none => none
  | _ => none
theorem strsOf_of (is : List Str) : strsOf (is.map .str) = some is := by
  induction is with
  | nil => rfl
  | cons i is ih => rw [List.map_cons]; unfold strsOf; rw [ih]
theorem DtAll.strs {K : PySem.W.Frag} {G : Hp} : ∀ {us : List V} {ds : List PyData} {is : List Str}, DtAll K G us ds → strsOf ds = some is → us = is.map .str
  | _, _, is, .nil, e => by
    have e' : is = [] := (Option.some.inj e).symm
    subst e'
    rfl
  | _, _, is, .cons a b, e => by
    unfold strsOf at e
    split at e
    · rename_i h; cases h
    · rename_i i ds h
      cases h
      split at e
      · rename_i is' e'
        cases e
        cases a
        rw [DtAll.strs b e', List.map_cons]
      · cases e
    · cases e
def SetS (P : Program) (w : World) (a : Addr) (n : Nat) : HO := .ext fun h => ∃ f, h.SetOf (strKind P w) a f n
theorem strsAre_vals : ∀ {ys : List Str} {us : List Value}, Vals (ys.map V.str) us → StrsAre us ys
  | [], _, .nil => .nil
  | y :: ys, _, .cons ⟨k, e⟩ t => by
    subst e
    exact .cons y k (strsAre_vals t)
theorem cr_setS {X : Cx} (hc : X.calm = true) : CallR X (.type "set") fun xs H Q => ∃ (l : Addr) (ns : List Str), xs = [V.ref l] ∧ SqT X.K H l (ns.map V.str) ∧ ns.length ≤ 4000 ∧ ∀ a : Addr, H a = none → Q (.ref a) (upd H a (SetS X.prog X.w a (dd ns).length)) := by
  intro pins s σ H xs us Q I r ⟨l, ns, e, hl, few, q⟩
  subst e
  rw [Vals.ref1 r]
  obtain ⟨its, rv, pl, hz⟩ := I.tuple hl
  refine set_of_strs (vs := its.toArray) ns (I.ok.hd hc) pl (by simpa using strsAre_vals rv) (by unfold scanBound; omega) fun h' tk R k => ?_
  obtain ⟨o, es, ep, t, ho, r1⟩ := id R
  exact ⟨.ref s.heap.objs.size, upd H s.heap.objs.size (SetS X.prog X.w s.heap.objs.size (dd ns).length), I.laid (t' := tk) k (Nat.le_refl _) ⟨⟨_, R⟩, ⟨o, ho⟩, fun h1 h2 ⟨f, o, es, ep, t, ho, r⟩ k2 => ⟨f, o, es, ep, t, k2 o ho, r⟩⟩, rfl, q _ (I.hok.fresh (Nat.le_refl _))⟩
theorem cr_lenS {X : Cx} : CallR X (.builtin "len") fun xs H Q => ∃ (a : Addr) (n : Nat), xs = [V.ref a] ∧ H a = some (SetS X.prog X.w a n) ∧ n ≤ 4000 ∧ Q (.int n) H := by
  intro pins s σ H xs us Q I r ⟨a, n, e, ha, few, q⟩
  subst e
  rw [Vals.ref1 r]
  obtain ⟨f, o, es, ep, t, ho, hex, hd, _, _, _, hf, hn⟩ := (I.hok a _ ha).1
  exact call_len_set ho hex hd hf (by rw [hn]; omega) ⟨.int n, H, I.tok _, ⟨_, by rw [hn]⟩, q⟩
def finLs (v : Val) (ρ : Env) : Option (Rs Val) := match res ρ v with
  | some (.dat (.tuple ds)) => match strsOf ds with
    | some is => if decide (is.length ≤ 4000) = true then some (.ok (.dat (.int (dd is).length)) ρ) else none
    | none => none
  | _ => none
theorem finLs_inv {v : Val} {ρ : Env} {q : Val → Env → Prop} {e : PyX → Env → Prop} (w : WP (finLs v ρ) q e) : ∃ ds is, res ρ v = some (.dat (.tuple ds)) ∧ strsOf ds = some is ∧ is.length ≤ 4000 ∧ q (.dat (.int (dd is).length)) ρ := by
  unfold finLs at w
  split at w
  · split at w
    · split at w
      · rename_i h
        exact ⟨_, _, by assumption, by assumption, of_decide_eq_true h, w⟩
      · exact w.elim
    · exact w.elim
  · exact w.elim
def cLs (f : Ev) : Ev := fun ρ => bnd (f ρ) fun v ρ1 => finLs v ρ1
section
variable {Γ : Gam} {N : List Str} {np : Nat} {sc : Scope}
theorem sE_ls {e : Expr} {p p2 pos pos2 : Pos} {f : Ev} (hb : "len" ∈ Γ.bl) (hb2 : "set" ∈ Γ.bl) (hg : glB sc ("len" : Str) = true) (hg2 : glB sc ("set" : Str) = true) (he : SndE Γ N sc e f)
    (h1 : ∀ env, starEach [e] env = (false, eval e env) :: starEach [] env := by intro _; rfl)
    (h2 : ∀ env, starEach [.Call (.Name "set" p2) [e] [] pos2] env = (false, eval (.Call (.Name "set" p2) [e] [] pos2) env) :: starEach [] env := by intro _; rfl) : SndE Γ N sc (.Call (.Name "len" p) [.Call (.Name "set" p2) [e] [] pos2] [] pos) (cLs f) := by
  intro X W kn G H σ ρ Q s w
  refine tE_of (pe_callB cr_lenS (gl_of kn.sc hg) (kn.bl _ hb) boot_len (pa_cons (pe_callTy (cr_setS kn.calm) (gl_of kn.sc hg2) (kn.bl _ hb2) boot_set (pa_cons pe_star pa_nil (h1 X.env)) (by decide) (by decide) (h1 X.env) (by rfl)) pa_nil (h2 X.env)) (by decide) (by decide) (h2 X.env) (by rfl)) ?_
  refine (he.go kn s.postX w).mono fun u H1 ⟨G1, ρ1, v, pe, p1, w1⟩ => ?_
  obtain ⟨ds, is, ea, es, few, w2⟩ := finLs_inv w1
  obtain ⟨b, vs, rfl, h, g, qa⟩ := (res.rel p1.st pe.rv ea).1.tOf p1.st.gh
  rw [qa.strs es] at h
  refine ⟨b, is, rfl, .inl (.inl h), few, fun a hn => ?_⟩
  have pg := p1.st.garb (o := SetS X.prog X.w a (dd is).length) hn (fun _ e => nomatch e)
  exact ⟨a, _, rfl, upd_same, Nat.le_trans (dd_len is) few, w2 _ _ _ ((p1.trans pg).dat (.int _))⟩
end
/-! ### order of alike data -/
def oOrd (g : PyData → PyData → Bool) : Op2 := fun a b => match a, b with
  | .dat d, .dat e => if alike d e && nBot2 d && dpt d e then some (.bool (g d e)) else none
  | _, _ => none
where nBot2 : PyData → Bool
  | .none => false
  | _ => true
theorem oOrd_inv {g : PyData → PyData → Bool} {a b : Val} {z : PyData} (e : oOrd g a b = some z) : ∃ d d', a = .dat d ∧ b = .dat d' ∧ alike d d' = true ∧ d ≠ .none ∧ min d.depth d'.depth ≤ 100 ∧ z = .bool (g d d') := by
  unfold oOrd at e
  split at e
  · split at e
    · rename_i d d' h
      cases e
      simp only [Bool.and_eq_true] at h
      refine ⟨d, d', rfl, rfl, h.1.1, fun z => ?_, of_decide_eq_true h.2, rfl⟩
      rw [z] at h
      exact absurd h.1.2 (by decide)
    · cases e
  · cases e
theorem sO_ord {f : Value → Value → Sem Value} {g : PyData → PyData → Bool}
    (h : ∀ {prog : Program} {w : World} {A : Around} {E : Value → Shared → Prop} {s : Shared} {a b : Value} {da db : PyData} {as bs : List Addr} {Q : Value → Shared → Prop}, Reads s.heap a da as → Reads s.heap b db bs → alike da db = true → da ≠ .none → A.units + min da.depth db.depth < cLine → Q (.bool (g da db)) s → wpAny (model prog w) A (f a b) Q E s) : OpS f (oOrd g) := by
  intro X hc hu pins s σ σ' G H x y v u a b d Q I rx ry gh ra rb na nb e q
  obtain ⟨d1, d2, rfl, rfl, hal, hne, hd, rfl⟩ := oOrd_inv e
  have r1 := ra.dOf gh rfl
  have r2 := rb.dOf gh rfl
  obtain ⟨as, q1⟩ := Dp.reads I d1 x v r1.1 rx
  obtain ⟨bs, q2⟩ := Dp.reads I d2 y u r2.1 ry
  exact h q1 q2 hal hne (by omega) ⟨.bl _, H, I, rfl, q _ G H New.refl (.bl _)⟩
def oGeD : Op2 := oOrd fun d e => !dataLt d e
def oLeD : Op2 := oOrd fun d e => !dataLt e d
def oLtD : Op2 := oOrd dataLt
def oGtD : Op2 := oOrd fun d e => dataLt e d
theorem s_geD : OpS (compareOp .GtE) oGeD := sO_ord fun a b c d e f => PySem.W.ge_data a b c d e f
theorem s_leD : OpS (compareOp .LtE) oLeD := sO_ord fun a b c d e f => PySem.W.le_data a b c d e f
theorem s_ltD : OpS (compareOp .Lt) oLtD := sO_ord fun a b c d e f => PySem.W.lt_data a b c d e f
theorem s_gtD : OpS (compareOp .Gt) oGtD := sO_ord fun a b c d e f => PySem.W.gt_data a b c d e f
end PP

end
section
set_option maxHeartbeats 1000000
set_option Elab.async false
set_option linter.all false
set_option maxRecDepth 100000
/-! PPw: the pure layer: list comprehensions over a list that a slot owns; that make an owned list. -/
namespace PP
open PySem PySem.Spec PyProof.Rows L2

def GivesAt (K : PySem.W.Frag) (G Hc : Hp) (J : It) (ds : List PyData) (i : Nat) : Prop := (∀ d, ds[i]? = some d → J.go i Hc ∧ ∀ x H'', J.yld i Hc x H'' → H'' = Hc ∧ Dt K G x d) ∧ (ds.length ≤ i → J.stop i Hc)
theorem givesAt {K : PySem.W.Frag} {G Hc : Hp} {a : Addr} {xs : List V} {ds : List PyData} (h : Hc a = some (.lst xs)) (r : DtAll K G xs ds) {i : Nat} : GivesAt K G Hc (Itl K a) ds i := by
  have hq : SqL K Hc a xs := .inl (.inl h)
  refine ⟨fun d hd => ?_, fun hi => ⟨xs, hq, by rw [r.len]; exact hi⟩⟩
  obtain ⟨u, hu, du⟩ := r.get hd
  refine ⟨⟨xs, u, hq, hu⟩, fun x H'' ⟨e, y⟩ => ⟨e, ?_⟩⟩
  have z := y xs hq
  rw [hu] at z
  cases z
  exact du
open Classical in
/-- the turns, the list still standing in its slot at each -/
noncomputable def lcMg (k : Nat) (dsA : List PyData) (vs : List Nat) (t : Tgt) (c : EvB) (e : Ev) : List PyData → Env → Option (List PyData × Env)
  | [], ρ => if ρ[k]? = some (some (.ml dsA)) then some ([], ρ) else none
  | d :: ds, ρ => if ρ[k]? = some (some (.ml dsA)) then match t d (wipeE ρ vs) with
    | none => none
    | some ρ2 => match lcStep c e ρ2 with
      | none => none
      | some (o, ρ4) => match lcMg k dsA vs t c e ds (rest ρ ρ4 vs) with
        | none => none
        | some (ys, ρf) => some (o.toList ++ ys, ρf)
    else none
noncomputable def lcMgB (k : Nat) (dsA : List PyData) (vs : List Nat) (t : Tgt) (c : EvB) (e : Ev) (l : List PyData) (ρ : Env) : Option (List PyData × Env) := match l with
  | [] => some ([], ρ)
  | d :: ds => match t d (wipeE ρ vs) with
    | none => none
    | some ρ2 => match lcStep c e ρ2 with
      | none => none
      | some (o, ρ4) => match lcMg k dsA vs t c e ds (rest ρ ρ4 vs) with
        | none => none
        | some (ys, ρf) => some (o.toList ++ ys, ρf)
theorem lcMg_inv {k : Nat} {dsA : List PyData} {vs : List Nat} {t : Tgt} {c : EvB} {e : Ev} {l : List PyData} {ρ : Env} {r : List PyData × Env} (h : lcMg k dsA vs t c e l ρ = some r) : ρ[k]? = some (some (.ml dsA)) ∧ lcMgB k dsA vs t c e l ρ = some r := by
  cases l with
  | nil =>
    unfold lcMg at h
    split at h
    · exact ⟨by assumption, h⟩
    · cases h
  | cons d ds =>
    unfold lcMg at h
    split at h
    · exact ⟨by assumption, h⟩
    · cases h
noncomputable def cLcG (k : Nat) (vs : List Nat) (t : Tgt) (c : EvB) (e : Ev) : Ev := fun ρ => match ρ[k]? with
  | some (some (.ml ds)) => finLc (lcMg k ds vs t c e ds ρ)
  | _ => none
def finLcO : Option (List PyData × Env) → Option (Rs Val)
  | some (ys, ρ) => if okLen ys.length = true then some (.ok (.ml ys) ρ) else none
  | none => none
def cLcO (vs : List Nat) (it : EvI) (t : Tgt) (c : EvB) (e : Ev) : Ev := fun ρ => bnd (it ρ) fun ds ρ1 => finLcO (lcM vs t c e ds ρ1)
section
variable {Γ : Gam} {N : List Str} {np : Nat} {sc : Scope} {is : List Nat}
/-- .. over a list that a slot owns -/
theorem loop_goL {elt tg : Expr} {ifs : List Expr} {scope : Scope} {vs : List Nat} {t : Tgt} {fc : EvB} {fe : Ev} (hg : SndG N 0 (locB scope) is tg t) (hsub : ∀ j ∈ is, j ∈ vs) (hc : SndF Γ N (relS scope sc) ifs fc) (he : SndE Γ N (relS scope sc) elt fe)
    {X : Cx} {W : WX} (kn : Kn Γ X sc N W) {G H G1 H1 : Hp} {σ : L2.St} {ρ ρ1 ρf : Env} {ds ys acc0 : List PyData} {accV0 : List V} {D : Addr} {kk : Nat} {ad : Addr} {Fin : Hp → Prop} (hlen : σ.length = N.length) (s : S8 X.K G H σ ρ) (HD : H D = none) (p1 : PostX X.K σ G H ρ G1 H1 ρ1) (hσ : σ[kk]? = some (some (.ref ad)))
    (hD : H1 D = some (.lst accV0)) (gD1 : G1 D = none) (d0 : DtAll X.K G1 accV0 acc0) (em0 : lcMg kk ds vs t fc fe ds ρ1 = some (ys, ρf)) (okL : (acc0 ++ ys).length ≤ 1000000)
    (hfin : ∀ Gf Hf accV, PostX X.K σ G H ρ Gf Hf ρf → (∀ a o, G1 a = some o → Gf a = some o) → Hf D = some (.lst accV) → Gf D = none → DtAll X.K Gf accV (acc0 ++ ys) → Fin Hf) :
    ∃ W : Nat → Nat → Hp → Prop, (∃ m, W 0 m H1) ∧ ∀ i m H, W i m H →
      ((Itl X.K ad).stop i H ∧ Fin H) ∨ ((Itl X.K ad).go i H ∧ ∃ Nx : Hp → Prop, (∀ H', Nx H' → ∃ m', m' < m ∧ W (i + 1) m' H') ∧ ∀ x H', (Itl X.K ad).yld i H x H' → gB X scope tg x (wipe σ vs) H' fun σ2 H2 => wipe σ2 vs = wipe σ vs ∧ fB X scope ifs σ2 H2 fun b H3 =>
        if b = true then eB X scope elt σ2 H3 fun y H4 => ∃ acc, H4 D = some (.lst acc) ∧ acc.length < sizeLine ∧ Nx (upd H4 D (.lst (acc ++ [y]))) else Nx H3) := by
  refine ⟨fun i m Hc => m = ds.length - i ∧ i ≤ ds.length ∧ ∃ (Gc : Hp) (ρc : Env) (accV : List V) (acc ys' : List PyData), PostX X.K σ G H ρ Gc Hc ρc ∧ (∀ a o, G1 a = some o → Gc a = some o) ∧ Hc D = some (.lst accV) ∧ Gc D = none ∧ DtAll X.K Gc accV acc ∧ lcMg kk ds vs t fc fe (ds.drop i) ρc = some (ys', ρf) ∧ acc ++ ys' = acc0 ++ ys,
    ⟨ds.length, by omega, Nat.zero_le _, G1, ρ1, accV0, acc0, ys, p1, fun _ _ h => h, hD, gD1, d0, em0, rfl⟩, ?_⟩
  rintro i m Hc ⟨rfl, hi, Gc, ρc, accV, acc, ys1, pc, gc, hDc, gDc, dacc, em, eL2⟩
  obtain ⟨gdd, em⟩ := lcMg_inv em
  have gvs : GivesAt X.K Gc Hc (Itl X.K ad) ds i := by
    obtain ⟨a', vs', hσ', g', hh', q'⟩ := slotMl pc.st gdd
    rw [hσ] at hσ'; cases hσ'
    exact givesAt hh' q'
  obtain ⟨gv1, gv2⟩ := gvs
  have nown : ∀ {ρ'}, PostX X.K σ G H ρ Gc Hc ρ' → ¬ Own Hc σ ρ' D := fun p o => (Own.there s (p.mm D o)).1 HD
  by_cases hlt : i < ds.length
  · have hd : ds[i]? = some ds[i] := List.getElem?_eq_getElem hlt
    obtain ⟨go, yl⟩ := gv1 _ hd
    rw [List.drop_eq_getElem_cons hlt] at em
    simp only [lcMgB] at em
    split at em
    · cases em
    · rename_i ρ2 e2
      split at em
      · cases em
      · rename_i o ρ4 e4
        split at em
        · cases em
        · rename_i ys' ρf' e5
          cases em
          refine .inr ⟨go, fun Hn => ∃ (Gn : Hp) (accV' : List V), PostX X.K σ G H ρ Gn Hn (rest ρc ρ4 vs) ∧ (∀ a o, G1 a = some o → Gn a = some o) ∧ Hn D = some (.lst accV') ∧ Gn D = none ∧ DtAll X.K Gn accV' (acc ++ o.toList),
            fun Hn ⟨Gn, accV', a1, a2, a3, a4, a5⟩ => ⟨ds.length - (i + 1), by omega, rfl, hlt, Gn, _, accV', acc ++ o.toList, ys', a1, a2, a3, a4, a5, e5, by rw [List.append_assoc]; exact eL2⟩, fun x H'' hy => ?_⟩
          obtain ⟨ex, dx⟩ := yl x H'' hy
          subst ex
          intro st2 H02 C cl fp
          have sw := pc.st.wiped vs
          refine hg _ (KnG.blk kn st2 H02 scope C cl fp) Gc H'' Gc H'' (wipe σ vs) (wipe σ vs) (wipeE ρc vs) (wipeE ρc vs) ρ2 x _ _ sw.postS (by rw [wipe_length]; exact hlen) dx e2 fun σ2 hl2 p2 out => ?_
          have out' : ∀ j : Nat, j ∉ vs → σ2[j]? = (wipe σ vs)[j]? ∧ ρ2[j]? = (wipeE ρc vs)[j]? := fun j hj => out j fun z => hj (hsub j z)
          have hl2' : σ2.length = σ.length := hl2.trans hlen.symm
          refine ⟨?_, ?_⟩
          · rw [wipe_ext (by rw [wipe_length]; exact hl2') fun j hj => (out' j hj).1, wipe_wipe]
          have nD2 : ¬ Own H'' σ2 ρ2 D := fun o => by
            obtain ⟨k, u, v, _, h1, h2, f⟩ := own_blk pc.st p2.st out' p2.mm o
            exact nown pc ⟨k, u, v, h1, h2, f⟩
          have la : acc.length ≤ 1000000 := by
            have : acc.length ≤ (acc0 ++ ys).length := by rw [← eL2, List.length_append]; omega
            omega
          have hz : accV.length < sizeLine := by
            rw [dacc.len, sizeLine_eq]
            omega
          refine turn_go hc he kn p2.st e4 hDc nD2 gDc hz fun G4 H4 u p4 hD4 gD4 du => ?_
          have pb := PostX.blk pc.st p2.st hl2' out' p2.mm p4
          have pt := pc.trans pb
          have nD4 : ¬ Own H4 σ (rest ρc ρ4 vs) D := fun o => (Own.there s (pt.mm D o)).1 HD
          have gg4 : ∀ a o, G1 a = some o → G4 a = some o := fun a o h => p4.ext.gg a o (gc a o h)
          cases o with
          | none =>
            exact ⟨G4, accV, pt, gg4, hD4, gD4, by rw [show acc ++ (none : Option PyData).toList = acc from List.append_nil acc]; exact dacc.mono p4.ext.gg⟩
          | some y =>
            exact ⟨G4, accV ++ [u], pt.poke hD4 nD4 gD4 HD (fun _ e => nomatch e), gg4, upd_same, gD4, (dacc.mono p4.ext.gg).app (.cons (du y rfl) .nil)⟩
  · have e0 : ds.drop i = [] := List.drop_eq_nil_of_le (by omega)
    rw [e0] at em
    simp only [lcMgB] at em
    cases em
    rw [List.append_nil] at eL2
    subst eL2
    exact .inl ⟨gv2 (by omega), hfin Gc Hc accV pc gc hDc gDc dacc⟩
theorem sE_lcG {elt tg : Expr} {k : Nat} {x : Str} {px : Pos} {ifs : List Expr} {scope : Scope} {own : List (Str × Nat)} {vs : List Nat} {pos : Pos} {t : Tgt} {fc : EvB} {fe : Ev} (hN : N[k]? = some x) (hv : visB sc x = true) (ok : blkC N sc scope own = true) (hvs : own.map (·.2) = vs) (hg : SndG N 0 (locB scope) is tg t) (hsub : ∀ j ∈ is, j ∈ vs)
    (hc : SndF Γ N (relS scope sc) ifs fc) (he : SndE Γ N (relS scope sc) elt fe) (hd : (x == ("__debug__" : Str)) = false := by decide) (hcd : (x == ("__classdict__" : Str)) = false := by decide) (hs : ∀ env y, foldedSetIterable (.Name x px) env y = pure y := by intro _ _; rfl) :
    SndE Γ N sc (.ListComp elt [⟨tg, .Name x px, ifs, 0⟩] scope pos) (cLcG k vs t fc fe) := by
  intro X W kn G H σ ρ Q s w
  refine fun pins st I => (pe_lc (wi := iSt X tg (.Name x px)) (g := gB X scope tg) (tt := fB X scope ifs) (te := eB X scope elt) kn.calm (kn.nn ▸ kn.nd) pi_star (kn.nn ▸ kn.sc ▸ blkOk_by ok)
    (fun s H C cl fp => ⟨fun pins st σ H v u Q I r h => h s _ C cl fp pins st u I r⟩) (fun s H C cl fp => ⟨fun pins st σ H Q I h => h s _ C cl fp pins st I⟩) (fun s H C cl fp => ⟨fun pins st σ H Q I h => h s _ C cl fp pins st I⟩) (hs X.env)).run pins st σ H Q I ?_
  rw [hvs]
  have hlen : σ.length = N.length := I.len.trans (by rw [kn.nn])
  unfold cLcG at w
  split at w
  · rename_i ds hk
    obtain ⟨ad, us, hσ, g0, h0, q0⟩ := slotMl s hk
    refine iSt_of (pi_list pe_star) (slot_go kn hN hv hd hcd hσ ⟨ad, rfl, ⟨us, .inl (.inl h0)⟩, ?_⟩)
    have w1 := w
    unfold finLc at w1
    split at w1
    · rename_i L ρf eL
      split at w1
      · rename_i okL
        intro D hD
        have gD1 := free_of s hD
        have HD : H D = none := hD
        refine loop_goL hg hsub hc he kn hlen s HD (s.garb hD (fun _ e => nomatch e)) hσ upd_same gD1 .nil eL (of_decide_eq_true okL) fun Gf Hf accV pf gf hDf gDf df => ?_
        have nDf : ¬ Own Hf σ ρf D := fun o => (Own.there s (pf.mm D o)).1 HD
        exact w1 _ _ _ ((pf.freeze hDf nDf gDf HD).dat (.lst upd_same (df.mono fun a o h => by rw [upd_ne (ne_of_none h gDf)]; exact h)))
      · exact w1.elim
    · exact w1.elim
  · exact w.elim
theorem sE_lcO {elt tg iter : Expr} {ifs : List Expr} {scope : Scope} {own : List (Str × Nat)} {vs : List Nat} {pos : Pos} {it : EvI} {t : Tgt} {fc : EvB} {fe : Ev} (hi : SndI Γ N sc tg iter it) (ok : blkC N sc scope own = true) (hvs : own.map (·.2) = vs) (hg : SndG N 0 (locB scope) is tg t) (hsub : ∀ j ∈ is, j ∈ vs)
    (hc : SndF Γ N (relS scope sc) ifs fc) (he : SndE Γ N (relS scope sc) elt fe) (hs : ∀ env x, foldedSetIterable iter env x = pure x := by intro _ _; rfl) :
    SndE Γ N sc (.ListComp elt [⟨tg, iter, ifs, 0⟩] scope pos) (cLcO vs it t fc fe) := by
  intro X W kn G H σ ρ Q s w
  refine fun pins st I => (pe_lc (wi := iSt X tg iter) (g := gB X scope tg) (tt := fB X scope ifs) (te := eB X scope elt) kn.calm (kn.nn ▸ kn.nd) pi_star (kn.nn ▸ kn.sc ▸ blkOk_by ok)
    (fun s H C cl fp => ⟨fun pins st σ H v u Q I r h => h s _ C cl fp pins st u I r⟩) (fun s H C cl fp => ⟨fun pins st σ H Q I h => h s _ C cl fp pins st I⟩) (fun s H C cl fp => ⟨fun pins st σ H Q I h => h s _ C cl fp pins st I⟩) (hs X.env)).run pins st σ H Q I ?_
  rw [hvs]
  have hlen : σ.length = N.length := I.len.trans (by rw [kn.nn])
  refine hi X W kn G H σ ρ _ s ?_
  unfold cLcO at w
  rw [WP_bnd] at w
  refine w.mono (fun ds ρ1 w1 J G1 H1 p1 gv => ?_) fun _ _ h => h
  unfold finLcO at w1
  split at w1
  · rename_i L ρf eL
    split at w1
    · rename_i okL
      intro D hD
      have gD1 := free_of p1.st hD
      have HD : H D = none := by
        cases e : H D with
        | none => rfl
        | some z => exact absurd hD (p1.ext.th D (by rw [e]; simp))
      refine loop_go hg hsub hc he kn hlen s HD (p1.trans (p1.st.garb hD (fun _ e => nomatch e))) gv upd_same gD1 .nil eL (of_decide_eq_true okL) fun Gf Hf accV pf gf hDf gDf df => ?_
      have nDf : ¬ Own Hf σ ρf D := fun o => (Own.there s (pf.mm D o)).1 HD
      exact w1 _ _ _ ⟨pf.st, pf.ext, pf.mm, pf.mt, ⟨D, accV, rfl, gDf, hDf, df⟩, fun b f => by
        have eb : b = D := (V.ref.inj f).symm
        subst eb
        exact ⟨nDf, .inr HD⟩⟩
    · exact w1.elim
  · exact w1.elim

end
end PP

end
section
set_option maxHeartbeats 1000000
set_option Elab.async false
set_option linter.all false
set_option maxRecDepth 100000
/-! PPx: the pure layer: constants' tuples in tests; name += int; list(range(n)); three stores at once; the tape made. -/
namespace PP
open PySem PySem.Spec PyProof.Rows L2
section
variable {Γ : Gam} {N : List Str} {np : Nat} {sc : Scope}
/-! ### x in a tuple of constants, as a test -/
def rInK (X : Cx) (ad : Addr) (ds : List PyData) (neg : Bool) : R2 := fun x y H Q => y = .ref ad ∧ ∃ d, Dp X.K H x d ∧ d.canLay0 = true ∧ min (PyData.depthAll ds) d.depth ≤ 100 ∧ Q (.bl (neg ^^ ds.any fun z => PyData.eqv z d)) H
theorem op_inK {X : Cx} {ad : Addr} {xs : List V} {ds : List PyData} (hu : X.A.units + 200 < cLine) (hsq : SqT X.K (fun _ => none) ad xs) (hdt : ∀ G, DtAll X.K G xs ds) : OpR X (compareOp .In) (rInK X ad ds false) := by
  intro pins s σ H x y v u Q I rx ry ⟨e, d, hd, hl, hm, q⟩
  subst e
  obtain ⟨as, q1⟩ := Dp.reads I d x v hd rx
  obtain ⟨bs, q2⟩ := Dp.reads I (.tuple ds) (.ref ad) u (.tup (SqT.mono (fun _ o z => nomatch (show (none : Option HO) = some o from z)) hsq) (hdt H).dp) ry
  exact SeqAt.in_tuple_reads q2 q1 (hdt H).lay hl (by omega) ⟨.bl _, H, I, rfl, by simpa using q⟩
theorem op_notInK {X : Cx} {ad : Addr} {xs : List V} {ds : List PyData} (hu : X.A.units + 200 < cLine) (hsq : SqT X.K (fun _ => none) ad xs) (hdt : ∀ G, DtAll X.K G xs ds) : OpR X (compareOp .NotIn) (rInK X ad ds true) := by
  intro pins s σ H x y v u Q I rx ry ⟨e, d, hd, hl, hm, q⟩
  subst e
  obtain ⟨as, q1⟩ := Dp.reads I d x v hd rx
  obtain ⟨bs, q2⟩ := Dp.reads I (.tuple ds) (.ref ad) u (.tup (SqT.mono (fun _ o z => nomatch (show (none : Option HO) = some o from z)) hsq) (hdt H).dp) ry
  exact SeqAt.notIn_tuple_reads q2 q1 (hdt H).lay hl (by omega) ⟨.bl _, H, I, rfl, by simpa using q⟩
theorem sT_inK {x : String} {ds : List PyData} {e : Expr} {p pos : Pos} {f : Ev} {o : CmpOp} {neg : Bool} (hoo : o = .In ∧ neg = false ∨ o = .NotIn ∧ neg = true) (hg : glB sc (x : Str) = true) (hm : (x, ds) ∈ Γ.kt) (he : SndE Γ N sc e f) (hbm : behindInMarks o (.Name (x : Str) p) = false)
    (hd : ((x : Str) == ("__debug__" : Str)) = false := by decide) : SndT Γ N sc (.Compare e [o] [.Name x p] pos) (cTst (cInK neg ds f)) := by
  intro X W kn G H σ ρ Q s w
  obtain ⟨ad, xs, hmg, hsq, hdt⟩ := kn.kt _ hm
  have hop : OpR X (compareOp o) (rInK X ad ds neg) := by
    rcases hoo with ⟨rfl, rfl⟩ | ⟨rfl, rfl⟩
    · exact op_inK kn.units hsq hdt
    · exact op_notInK kn.units hsq hdt
  refine tT_of (pt_cmpR hop pe_star (pe_glob (v := .ref ad) (gl_of kn.sc hg) hmg rfl hd) hbm) ?_
  unfold cTst cInK at w
  rw [WP_bnd] at w
  refine (he.go kn s.postX w).mono fun u H1 ⟨G1, ρ1, v, pe, p1, w1⟩ => ?_
  split at w1
  · rename_i a ea
    have r := (res.rel p1.st pe.rv ea).1
    split at w1
    · rename_i d ed
      split at w1
      · rename_i hdp
        have r1 := r.dOf p1.st.gh ed
        exact ⟨rfl, d, r1.1, r1.2, of_decide_eq_true hdp, _, rfl, w1 G1 H1 p1⟩
      · exact w1.elim
    · exact w1.elim
  · exact w1.elim
/-! ### name += int -/
def finAug (np i : Nat) (a v : Val) (ρ : Env) : Option (Rs Fl) := match a, v with
  | .dat (.int x), .dat (.int y) => stV np i (.dat (.int (x + y))) ρ
  | _, _ => none
theorem finAug_inv {np i : Nat} {a v : Val} {ρ : Env} {q : Fl → Env → Prop} {e : PyX → Env → Prop} (w : WP (finAug np i a v ρ) q e) : ∃ x y ρ', a = .dat (.int x) ∧ v = .dat (.int y) ∧ setV np i (.dat (.int (x + y))) ρ = some ρ' ∧ q .nx ρ' := by
  unfold finAug stV at w
  split at w
  · split at w
    · exact ⟨_, _, _, rfl, rfl, by assumption, w⟩
    · exact w.elim
  · exact w.elim
def sAug (np i : Nat) (f : Ev) : Ex := fun ρ => match ρ[i]? with
  | some (some a) => bnd (f ρ) fun v ρ1 => finAug np i a v ρ1
  | _ => none
theorem sS_aug {i : Nat} {x : Str} {e : Expr} {pos pos' : Pos} {f : Ev} (hN : N[i]? = some x) (hx : locB sc x = true) (h : SndE Γ N sc e f) : SndS Γ N np sc (.AugAssign (.Name x pos') .Add e pos) (sAug np i f) := by
  intro X W kn G H σ ρ D s hl w
  refine tS_of (ps_aug (i := i) (kn.nn ▸ kn.nd) (kn.nn ▸ hN) (kn.sc ▸ loc_of hx) pe_star ip_add (.inl (kn.cf x))) ?_
  unfold sAug at w
  split at w
  · rename_i a hi
    obtain ⟨_, ua, hσ, ra⟩ := s.rel i a hi
    refine ⟨ua, hσ, ?_⟩
    refine (h.goS kn.toKn s.postS w).mono fun u H1 ⟨G1, ρ1, v, pe, p1, w1⟩ => ?_
    obtain ⟨x1, y1, ρ', rfl, rfl, e, w2⟩ := finAug_inv w1
    exact ⟨x1, y1, ra.int, (show RelW X.K G1 H1 σ u (.dat (.int y1)) from pe.rv).int, w2 _ G1 H1 (S8.set p1 (v := .dat (.int (x1 + y1))) trivial (show Dt X.K G1 (V.int (x1 + y1)) (.int (x1 + y1)) from .int _) (fun b f => f.elim) (by rw [hl]; exact lt_of_get hN) e)⟩
  · exact w.elim
/-! ### list(range(n)) -/
def finLr (v : Val) (ρ : Env) : Option (Rs Val) := match v with
  | .dat (.int n) => if decide (0 ≤ n ∧ n ≤ 1000000) = true then some (.ok (.dat (.list (rngI 0 n.toNat))) ρ) else none
  | _ => none
def cLr (f : Ev) : Ev := fun ρ => bnd (f ρ) fun v ρ1 => finLr v ρ1
theorem sE_lr {a : Expr} {p p2 pos pos2 : Pos} {f : Ev} (hb : "list" ∈ Γ.bl) (hb2 : "range" ∈ Γ.bl) (hg : glB sc ("list" : Str) = true) (hg2 : glB sc ("range" : Str) = true) (ha : SndE Γ N sc a f)
    (h1 : ∀ env, starEach [a] env = (false, eval a env) :: starEach [] env := by intro _; rfl) (h2 : ∀ env, starEach [.Call (.Name "range" p2) [a] [] pos2] env = (false, eval (.Call (.Name "range" p2) [a] [] pos2) env) :: starEach [] env := by intro _; rfl) :
    SndE Γ N sc (.Call (.Name "list" p) [.Call (.Name "range" p2) [a] [] pos2] [] pos) (cLr f) := by
  intro X W kn G H σ ρ Q s w
  refine tE_of (pe_listRg kn.calm (gl_of kn.sc hg) (kn.bl _ hb) (prg_1 (gl_of kn.sc hg2) (kn.bl _ hb2) pe_star (h1 X.env)) (h2 X.env)) ?_
  refine (ha.go kn s.postX w).mono fun u H1 ⟨G1, ρ1, v, pe, p1, w1⟩ => ?_
  unfold finLr at w1
  split at w1
  · rename_i n
    split at w1
    · rename_i hn
      have hn' := of_decide_eq_true hn
      refine ⟨n, (show RelW X.K G1 H1 σ u (.dat (.int n)) from pe.rv).int, ⟨by omega, by omega, by omega, by omega, by omega⟩, fun q hq => ?_⟩
      have px := p1.st.pushX (o := .lst (rgV 0 n)) hq
      have e1 : rgV 0 n = ((List.range n.toNat).map fun i : Nat => (0 : Int) + (i : Nat)).map .int := by
        unfold rgV
        rw [List.map_map, Int.sub_zero]
        rfl
      have e2 : rngI 0 n.toNat = ((List.range n.toNat).map fun i : Nat => (0 : Int) + (i : Nat)).map .int := by
        unfold rngI
        rw [List.map_map]
        rfl
      refine w1 _ _ _ ((p1.trans px).dat (.lst upd_same ?_))
      rw [e1, e2]
      exact DtAll.ofInts _
    · exact w1.elim
  · exact w1.elim
/-! ### three stores at once, the pair's third a constant -/
def par3 (np i j l : Nat) (v w z : Val) (ρ : Env) : Option (Rs Fl) := match v, z with
  | .dat a, .dat c => match setV np i (.dat a) ρ with
    | some ρ1 => match setV np j w ρ1 with
      | some ρ2 => stV np l (.dat c) ρ2
      | none => none
    | none => none
  | _, _ => none
theorem par3_inv {np i j l : Nat} {v w z : Val} {ρ : Env} {q : Fl → Env → Prop} {e : PyX → Env → Prop} (h : WP (par3 np i j l v w z ρ) q e) : ∃ a c ρ1 ρ2 ρ3, v = .dat a ∧ z = .dat c ∧ setV np i (.dat a) ρ = some ρ1 ∧ setV np j w ρ1 = some ρ2 ∧ setV np l (.dat c) ρ2 = some ρ3 ∧ q .nx ρ3 := by
  unfold par3 stV at h
  split at h
  · split at h
    · split at h
      · split at h
        · exact ⟨_, _, _, _, _, rfl, rfl, by assumption, by assumption, by assumption, h⟩
        · exact h.elim
      · exact h.elim
    · exact h.elim
  · exact h.elim
def sPar3 (np i j l : Nat) (f g k : Ev) : Ex := fun ρ => bnd (f ρ) fun v ρ1 => bnd (g ρ1) fun w ρ2 => bnd (k ρ2) fun z ρ3 => par3 np i j l v w z ρ3
theorem own_set {H : Hp} {σ : L2.St} {ρ ρ' : Env} {i np : Nat} {u : V} {d : PyData} (hl : ρ.length = σ.length) (e : setV np i (.dat d) ρ = some ρ') {b : Addr} (o : Own H (σ.set i (some u)) ρ' b) : Own H σ ρ b := by
  unfold setV at e
  split at e
  · cases e
    obtain ⟨k, u', v', h1, h2, f⟩ := o
    by_cases hk : k = i
    · subst hk
      have hkρ : k < ρ.length := by
        have := lt_of_get h2
        rwa [List.length_set] at this
      rw [List.getElem?_set_self hkρ] at h2
      cases h2
      exact f.elim
    · rw [List.getElem?_set_ne (Ne.symm hk)] at h1 h2
      exact ⟨k, u', v', h1, h2, f⟩
  · cases e
theorem sS_par3 {i j l : Nat} {x y z : Str} {a b c : Expr} {px py pz pt pos pt2 : Pos} {kt k2 : Nat} {f g h : Ev} (hN : N[i]? = some x) (hN2 : N[j]? = some y) (hN3 : N[l]? = some z) (hx : locB sc x = true) (hy : locB sc y = true) (hz : locB sc z = true) (ha : SndE Γ N sc a f) (hb : SndE Γ N sc b g) (hc : SndE Γ N sc c h)
    (hw : ∀ env, env.scope = sc → swappedStores [.Tuple [.Name x px, .Name y py, .Name z pz] kt pt] (.Tuple [a, b, c] k2 pt2) env = pure none) (hs : ∀ env, swapsWithSole [.Tuple [.Name x px, .Name y py, .Name z pz] kt pt] (.Tuple [a, b, c] k2 pt2) pos.line env = pure false := by intro _; rfl)
    (he : ∀ env, starEach [a, b, c] env = (false, eval a env) :: starEach [b, c] env := by intro _; rfl) (he2 : ∀ env, starEach [b, c] env = (false, eval b env) :: starEach [c] env := by intro _; rfl) (he3 : ∀ env, starEach [c] env = (false, eval c env) :: starEach [] env := by intro _; rfl) :
    SndS Γ N np sc (.Assign [.Tuple [.Name x px, .Name y py, .Name z pz] kt pt] (.Tuple [a, b, c] k2 pt2) pos) (sPar3 np i j l f g h) := by
  intro X W kn G H σ ρ D s hl w
  have kg := kn.g
  refine tS_of (ps_asg (pe_tup (pa_cons pe_star (pa_cons pe_star (pa_cons pe_star pa_nil (he3 X.env)) (he2 X.env)) (he X.env)))
    (pg_tup (n := 3) kn.calm (pgs_cons (pg_name (i := i) (kn.nn ▸ kn.nd) (kn.nn ▸ hN) (kg.lo x hx).1 (kg.lo x hx).2) (pgs_cons (pg_name (i := j) (kn.nn ▸ kn.nd) (kn.nn ▸ hN2) (kg.lo y hy).1 (kg.lo y hy).2) (pgs_cons (pg_name (i := l) (kn.nn ▸ kn.nd) (kn.nn ▸ hN3) (kg.lo z hz).1 (kg.lo z hz).2) pgs_nil)))) (hs X.env) (hw X.env kn.sc)) ?_
  refine (ha.goS kn.toKn s.postS w).mono fun u1 H1 ⟨G1, ρ1, v1, pe1, p1, w1⟩ => ?_
  refine (hb.goS kn.toKn p1 w1).mono fun u2 H2 ⟨G2, ρ2, v2, pe2, p2, w2⟩ => ?_
  refine (hc.goS kn.toKn p2 w2).mono fun u3 H3 ⟨G3, ρ3, v3, pe3, p3, w3⟩ => ?_
  refine ⟨by show 3 ≤ sizeLine; decide, fun p hp => ?_⟩
  obtain ⟨d, c, ρ4, ρ5, ρ6, rfl, rfl, e4, e5, e6, w4⟩ := par3_inv w3
  have gb := pe3.st.frozen (o := .tup [u1, u2, u3]) hp
  have k1 := pe1.keep (pe2.x.trans (pe3.x.trans gb))
  have k2 := pe2.keep (pe3.x.trans gb)
  have k3 := pe3.keep gb
  have pz := p3.trans gb.toS
  have q1 := S8.set pz (v := .dat d) trivial k1.rv (fun b f => f.elim) (by rw [hl]; exact lt_of_get hN) e4
  have fw : ∀ b, foot (upd H3 p (.tup [u1, u2, u3])) u2 v2 b → ¬ Own (upd H3 p (.tup [u1, u2, u3])) (σ.set i (some u1)) ρ4 b ∧ (Own H σ ρ b ∨ H b = none) := fun b f => by
    obtain ⟨f1, f2⟩ := k2.fv b f
    refine ⟨fun o => f1 (own_set pz.st.len e4 o), ?_⟩
    rcases f2 with f2 | f2
    · exact p1.mm b f2
    · refine .inr ?_
      cases e : H b with
      | none => rfl
      | some z => exact absurd f2 (p1.ext.th b (by rw [e]; simp))
  have nb2 := setV_nb e5
  have q2 := S8.set q1 nb2 (RelW.any nb2 k2.rv) fw (by rw [List.length_set, hl]; exact lt_of_get hN2) e5
  have q3 := S8.set q2 (v := .dat c) trivial (show RelW X.K _ _ _ u3 (.dat c) from k3.rv) (fun b f => f.elim) (by rw [List.length_set, List.length_set, hl]; exact lt_of_get hN3) e6
  exact ⟨p, [u1, u2, u3], rfl, .inl (.inl upd_same), rfl, u1, [u2, u3], rfl, u2, [u3], rfl, u3, [], rfl, rfl, w4 _ _ _ q3⟩
/-! ### the tape made: [i, cells] -/
def finTape (i : Int) (k : Nat) (ρ : Env) : Option (Rs Val) := match ρ[k]? with
  | some (some (.ml ds)) => match intsOf ds with
    | some is => some (.ok (.tp i is) (ρ.set k none))
    | none => none
  | _ => none
def cTape (i : Int) (k : Nat) : Ev := fun ρ => finTape i k ρ
theorem sE_tape {i : Int} {k : Nat} {x : Str} {jj : Nat} {pc px pos : Pos} (hN : N[k]? = some x) (hv : visB sc x = true) (hd : (x == ("__debug__" : Str)) = false := by decide) (hcd : (x == ("__classdict__" : Str)) = false := by decide)
    (he : ∀ env, starEach [.Constant (.int i) jj pc, .Name x px] env = (false, eval (.Constant (.int i) jj pc) env) :: starEach [.Name x px] env := by intro _; rfl) (he2 : ∀ env, starEach [.Name x px] env = (false, eval (.Name x px) env) :: starEach [] env := by intro _; rfl) :
    SndE Γ N sc (.List [.Constant (.int i) jj pc, .Name x px] pos) (cTape i k) := by
  intro X W kn G H σ ρ Q s w
  refine tE_of (pe_lst (pa_cons pe_int (pa_cons pe_star pa_nil (he2 X.env)) (he X.env))) ?_
  unfold cTape finTape at w
  split at w
  · rename_i ds hk
    split at w
    · rename_i is ei
      obtain ⟨C, vs, hσ, gC, hC, qa⟩ := slotMl s hk
      have hvs : vs = is.map .int := by
        have e3 := intsOf_map ei
        subst e3
        exact qa.ints
      subst hvs
      refine slot_go kn hN hv hd hcd hσ ⟨by show 2 ≤ sizeLine; decide, fun T hT => ?_⟩
      have gT := free_of s hT
      have ne : T ≠ C := fun e => by rw [e, hC] at hT; cases hT
      have pg := s.garb (o := .lst [.int i, .ref C]) hT (fun _ e => nomatch e)
      have pd := (PostX.toS (np := 0) pg).drop (i := k)
      have own : ∀ b, foot (upd H T (.lst [.int i, .ref C])) (.ref T) (.tp i is) b → b = T ∨ b = C := fun b f => by
        rcases f with e | ⟨T', q, e, z⟩
        · exact .inl (V.ref.inj e).symm
        · cases e; rw [upd_same] at z; cases z; exact .inr rfl
      refine w (.ref T) G _ ⟨pd.st, pd.ext, fun b o => (pd.mm b o).elim id fun z => absurd z ?_, fun j => ?_, ⟨T, C, rfl, ne, gT, gC, upd_same, by rw [upd_ne (Ne.symm ne)]; exact hC⟩, fun b f => ?_⟩
      · obtain ⟨j, u, v, h1, h2, f⟩ := o
        by_cases hj : j = k
        · subst hj
          rw [List.getElem?_set_self (lt_of_get hk)] at h2
          cases h2
        · rw [List.getElem?_set_ne (Ne.symm hj)] at h2
          exact (Own.there s (pg.mm b ⟨j, u, v, h1, h2, f⟩)).1
      · intro v' h hm
        by_cases hj : j = k
        · subst hj
          rw [List.getElem?_set_self (lt_of_get hk)] at h
          cases h
        · rw [List.getElem?_set_ne (Ne.symm hj)] at h
          exact pg.mt j v' h hm
      · rcases own b f with e | e
        · subst e
          exact ⟨fun o => by
            obtain ⟨j, u, v, h1, h2, f⟩ := o
            by_cases hj : j = k
            · subst hj
              rw [List.getElem?_set_self (lt_of_get hk)] at h2
              cases h2
            · rw [List.getElem?_set_ne (Ne.symm hj)] at h2
              exact (Own.there s (pg.mm b ⟨j, u, v, h1, h2, f⟩)).1 hT, .inr hT⟩
        · subst e
          refine ⟨fun o => ?_, .inl ⟨k, _, _, hσ, hk, rfl⟩⟩
          obtain ⟨j, u, v, h1, h2, f⟩ := o
          by_cases hj : j = k
          · subst hj
            rw [List.getElem?_set_self (lt_of_get hk)] at h2
            cases h2
          · rw [List.getElem?_set_ne (Ne.symm hj)] at h2
            exact pg.st.sep j k u v _ _ b hj h1 h2 hσ hk f rfl
    · exact w.elim
  · exact w.elim
end
end PP

end
section
set_option maxHeartbeats 1000000
set_option Elab.async false
set_option linter.all false
set_option maxRecDepth 100000
/-! PPy: the pure layer: the operators as the generator names them. -/
namespace PP
open PySem PySem.Spec PyProof.Rows L2
/-- stores at once look at the scope alone -/
def env0 (sc : Scope) : PySem.Env := { scope := sc, locals := 0, globals := 0, cells := [] }
theorem swap_by {sc : Scope} {T : List Expr} {v : Expr} {r : Sem (Option (List Str))} (h : swappedStores T v (env0 sc) = r) : ∀ env : PySem.Env, env.scope = sc → swappedStores T v env = r := fun env e => by
  have hk : PySem.Env.kindOf env = PySem.Env.kindOf (env0 sc) := by
    funext x
    unfold PySem.Env.kindOf
    rw [e]
    rfl
  have hb : PySem.Env.blockKind env = PySem.Env.blockKind (env0 sc) := by
    unfold PySem.Env.blockKind
    rw [e]
    rfl
  rw [← h]
  unfold swappedStores
  rw [hk, hb]
def oAdd : Op2 := orO oAddI (orO oCatT oCatL)
theorem s_add : OpS (binaryOp .Add) oAdd := s_addI.or (s_catT.or s_catL)
def oMul : Op2 := orO oMulI (orO oRepT oRepL)
theorem s_mul : OpS (binaryOp .Mult) oMul := s_mulI.or (s_repT.or s_repL)
def oEqq : Op2 := orO oEq (oEqK false)
theorem s_eqq : OpS (compareOp .Eq) oEqq := s_eq.or s_eqK
def oNee : Op2 := orO oNe (oEqK true)
theorem s_nee : OpS (compareOp .NotEq) oNee := s_ne.or s_neK
def oLt : Op2 := orO oLtI oLtD
theorem s_lt : OpS (compareOp .Lt) oLt := s_ltI.or s_ltD
def oLe : Op2 := orO oLeI oLeD
theorem s_le : OpS (compareOp .LtE) oLe := s_leI.or s_leD
def oGt : Op2 := orO oGtI oGtD
theorem s_gt : OpS (compareOp .Gt) oGt := s_gtI.or s_gtD
def oGe : Op2 := orO oGeI oGeD
theorem s_ge : OpS (compareOp .GtE) oGe := s_geI.or s_geD
def oIn : Op2 := orO (oInS false) (orO (oInC false) (oInD false))
theorem s_in : OpS (compareOp .In) oIn := s_inS.or (s_inC.or s_inD)
def oNotIn : Op2 := orO (oInS true) (orO (oInC true) (oInD true))
theorem s_notIn : OpS (compareOp .NotIn) oNotIn := s_notInS.or (s_notInC.or s_notInD)
def oIs : Op2 := oIsB false
theorem s_is : OpS (compareOp .Is) oIs := s_isB
def oIsNot : Op2 := oIsB true
theorem s_isNot : OpS (compareOp .IsNot) oIsNot := s_isNotB
def bList : Built := orB bLst bKeys
theorem cb_list : CbS (.type "list") bList := cb_lst.or cb_keys
def bSorted (own : Bool) : Built := orB (bSort own) (bSortD own)
theorem cb_sorted {own : Bool} : CbS (.builtin "sorted") (bSorted own) := cb_sort.or cb_sortD
end PP

end
section
set_option maxHeartbeats 1000000
set_option Elab.async false
set_option linter.all false
set_option maxRecDepth 100000
/-! PPz: the pure layer: name = [..], the name a plain local. -/
namespace PP
open PySem PySem.Spec PyProof.Rows L2
section
variable {Γ : Gam} {N : List Str} {np : Nat} {sc : Scope} {is : List Nat}
theorem lc_tr {elt tg iter : Expr} {ifs : List Expr} {scope : Scope} {own : List (Str × Nat)} {vs : List Nat} {it : EvI} {t : Tgt} {fc : EvB} {fe : Ev} (hi : SndI Γ N sc tg iter it) (ok : blkC N sc scope own = true) (hvs : own.map (·.2) = vs) (hg : SndG N 0 (locB scope) is tg t) (hsub : ∀ j ∈ is, j ∈ vs)
    (hc : SndF Γ N (relS scope sc) ifs fc) (he : SndE Γ N (relS scope sc) elt fe) (hs : ∀ env x, foldedSetIterable iter env x = pure x := by intro _ _; rfl) {X : Cx} {W : WX} (kn : Kn Γ X sc N W) {G H : Hp} {σ : L2.St} {ρ : Env} {Q : VK} (hlen : σ.length = N.length) (s : S8 X.K G H σ ρ) (w : WP (cLc vs it t fc fe ρ) (fun v ρ' => ∀ u G' H', PostE X.K σ G H ρ G' H' ρ' u v → Q u H') (ExQ Γ X.K W σ G H ρ)) : tLc (iSt X tg iter) (gB X scope tg) (fB X scope ifs) (eB X scope elt) vs σ H Q := by
  refine hi X W kn G H σ ρ _ s ?_
  unfold cLc at w
  rw [WP_bnd] at w
  refine w.mono (fun ds ρ1 w1 J G1 H1 p1 gv => ?_) fun _ _ h => h
  unfold finLc at w1
  split at w1
  · rename_i L ρf eL
    split at w1
    · rename_i okL
      intro D hD
      have gD1 := free_of p1.st hD
      have HD : H D = none := by
        cases e : H D with
        | none => rfl
        | some z => exact absurd hD (p1.ext.th D (by rw [e]; simp))
      refine loop_go hg hsub hc he kn hlen s HD (p1.trans (p1.st.garb hD (fun _ e => nomatch e))) gv upd_same gD1 .nil eL (of_decide_eq_true okL) fun Gf Hf accV pf gf hDf gDf df => ?_
      have nDf : ¬ Own Hf σ ρf D := fun o => (Own.there s (pf.mm D o)).1 HD
      exact w1 _ _ _ ((pf.freeze hDf nDf gDf HD).dat (.lst upd_same (df.mono fun a o h => by rw [upd_ne (ne_of_none h gDf)]; exact h)))
    · exact w1.elim
  · exact w1.elim
theorem lcO_tr {elt tg iter : Expr} {ifs : List Expr} {scope : Scope} {own : List (Str × Nat)} {vs : List Nat} {it : EvI} {t : Tgt} {fc : EvB} {fe : Ev} (hi : SndI Γ N sc tg iter it) (ok : blkC N sc scope own = true) (hvs : own.map (·.2) = vs) (hg : SndG N 0 (locB scope) is tg t) (hsub : ∀ j ∈ is, j ∈ vs)
    (hc : SndF Γ N (relS scope sc) ifs fc) (he : SndE Γ N (relS scope sc) elt fe) (hs : ∀ env x, foldedSetIterable iter env x = pure x := by intro _ _; rfl) {X : Cx} {W : WX} (kn : Kn Γ X sc N W) {G H : Hp} {σ : L2.St} {ρ : Env} {Q : VK} (hlen : σ.length = N.length) (s : S8 X.K G H σ ρ) (w : WP (cLcO vs it t fc fe ρ) (fun v ρ' => ∀ u G' H', PostE X.K σ G H ρ G' H' ρ' u v → Q u H') (ExQ Γ X.K W σ G H ρ)) : tLc (iSt X tg iter) (gB X scope tg) (fB X scope ifs) (eB X scope elt) vs σ H Q := by
  refine hi X W kn G H σ ρ _ s ?_
  unfold cLcO at w
  rw [WP_bnd] at w
  refine w.mono (fun ds ρ1 w1 J G1 H1 p1 gv => ?_) fun _ _ h => h
  unfold finLcO at w1
  split at w1
  · rename_i L ρf eL
    split at w1
    · rename_i okL
      intro D hD
      have gD1 := free_of p1.st hD
      have HD : H D = none := by
        cases e : H D with
        | none => rfl
        | some z => exact absurd hD (p1.ext.th D (by rw [e]; simp))
      refine loop_go hg hsub hc he kn hlen s HD (p1.trans (p1.st.garb hD (fun _ e => nomatch e))) gv upd_same gD1 .nil eL (of_decide_eq_true okL) fun Gf Hf accV pf gf hDf gDf df => ?_
      have nDf : ¬ Own Hf σ ρf D := fun o => (Own.there s (pf.mm D o)).1 HD
      exact w1 _ _ _ ⟨pf.st, pf.ext, pf.mm, pf.mt, ⟨D, accV, rfl, gDf, hDf, df⟩, fun b f => by
        have eb : b = D := (V.ref.inj f).symm
        subst eb
        exact ⟨nDf, .inr HD⟩⟩
    · exact w1.elim
  · exact w1.elim
theorem lc2_tr {elt tg iter tg1 iter1 : Expr} {ifs ifs1 : List Expr} {scope : Scope} {own : List (Str × Nat)} {vs vs1 is1 : List Nat} {it it1 : EvI} {t t1 : Tgt} {fc fc1 : EvB} {fe : Ev} (hi : SndI Γ N sc tg iter it) (ok : blkC N sc scope own = true) (hvs : own.map (·.2) = vs) (hv : ∀ i ∈ vs1, i ∈ vs)
    (hg : SndG N 0 (locB scope) is tg t) (hsub : ∀ j ∈ is, j ∈ vs) (hc : SndF Γ N (relS scope sc) ifs fc) (hi1 : SndI Γ N (relS scope sc) tg1 iter1 it1) (hg1 : SndG N 0 (locB scope) is1 tg1 t1) (hsub1 : ∀ j ∈ is1, j ∈ vs1) (hc1 : SndF Γ N (relS scope sc) ifs1 fc1)
    (he : SndE Γ N (relS scope sc) elt fe) (hs : ∀ env x, foldedSetIterable iter env x = pure x := by intro _ _; rfl) (hs1 : ∀ env x, foldedSetIterable iter1 env x = pure x := by intro _ _; rfl) {X : Cx} {W : WX} (kn : Kn Γ X sc N W) {G H : Hp} {σ : L2.St} {ρ : Env} {Q : VK} (hlen : σ.length = N.length) (s : S8 X.K G H σ ρ) (w : WP (cLc2 vs vs1 it t fc it1 t1 fc1 fe ρ) (fun v ρ' => ∀ u G' H', PostE X.K σ G H ρ G' H' ρ' u v → Q u H') (ExQ Γ X.K W σ G H ρ)) : tLc2 (iSt X tg iter) (gB X scope tg) (fB X scope ifs) (iB X scope tg1 iter1) (gB X scope tg1) (fB X scope ifs1) (eB X scope elt) vs vs1 σ H Q := by
  refine hi X W kn G H σ ρ _ s ?_
  unfold cLc2 at w
  rw [WP_bnd] at w
  refine w.mono (fun ds ρ1 w1 J G1 H1 p1 gv => ?_) fun _ _ h => h
  unfold finLc at w1
  split at w1
  · rename_i L ρf eL
    split at w1
    · rename_i okL
      intro D hD
      have gD1 := free_of p1.st hD
      have HD : H D = none := by
        cases e : H D with
        | none => rfl
        | some z => exact absurd hD (p1.ext.th D (by rw [e]; simp))
      refine ⟨fun i m Hc => m = ds.length - i ∧ i ≤ ds.length ∧ ∃ (Gc : Hp) (ρc : Env) (accV : List V) (acc ys' : List PyData), PostX X.K σ G H ρ Gc Hc ρc ∧ (∀ a o, G1 a = some o → Gc a = some o) ∧ Hc D = some (.lst accV) ∧ Gc D = none ∧ DtAll X.K Gc accV acc ∧ lc2M vs vs1 t fc it1 t1 fc1 fe (ds.drop i) ρc = some (ys', ρf) ∧ acc ++ ys' = L,
        ⟨ds.length, by omega, Nat.zero_le _, G1, ρ1, [], [], L, p1.trans (p1.st.garb hD (fun _ e => nomatch e)), fun _ _ h => h, upd_same, gD1, .nil, eL, rfl⟩, ?_⟩
      rintro i m Hc ⟨rfl, hi, Gc, ρc, accV, acc, ys1, pc, gc, hDc, gDc, dacc, em, eL2⟩
      obtain ⟨gv1, gv2⟩ := gv Hc (fun a o h => pc.st.gh a o (gc a o h)) i
      have nown : ¬ Own Hc σ ρc D := fun o => (Own.there s (pc.mm D o)).1 HD
      by_cases hlt : i < ds.length
      · have hd : ds[i]? = some ds[i] := List.getElem?_eq_getElem hlt
        obtain ⟨go, yl⟩ := gv1 _ hd
        rw [List.drop_eq_getElem_cons hlt] at em
        unfold lc2M at em
        split at em
        · cases em
        · rename_i ρ2 e2
          -- what a turn reaches: the row behind it, what it made
          have turn : ∀ (ρ5 : Env) (ys : List PyData), (∀ ys', lc2M vs vs1 t fc it1 t1 fc1 fe (ds.drop (i + 1)) (rest ρc ρ5 vs) = some (ys', ρf) → (acc ++ ys) ++ ys' = L → ∀ Hn, (∃ (Gn : Hp) (accV' : List V), PostX X.K σ G H ρ Gn Hn (rest ρc ρ5 vs) ∧ (∀ a o, G1 a = some o → Gn a = some o) ∧ Hn D = some (.lst accV') ∧ Gn D = none ∧ DtAll X.K Gn accV' (acc ++ ys)) →
              ∃ m', m' < ds.length - i ∧ m' = ds.length - (i + 1) ∧ i + 1 ≤ ds.length ∧ ∃ (Gc : Hp) (ρc : Env) (accV : List V) (acc ys' : List PyData), PostX X.K σ G H ρ Gc Hn ρc ∧ (∀ a o, G1 a = some o → Gc a = some o) ∧ Hn D = some (.lst accV) ∧ Gc D = none ∧ DtAll X.K Gc accV acc ∧ lc2M vs vs1 t fc it1 t1 fc1 fe (ds.drop (i + 1)) ρc = some (ys', ρf) ∧ acc ++ ys' = L) := fun ρ5 ys ys' e el Hn ⟨Gn, accV', a1, a2, a3, a4, a5⟩ =>
            ⟨ds.length - (i + 1), by omega, rfl, hlt, Gn, _, accV', acc ++ ys, ys', a1, a2, a3, a4, a5, e, el⟩
          have start : ∀ {Nx : Hp → Prop}, (∀ (x : V) (σ2 : L2.St), σ2.length = σ.length → S8 X.K Gc Hc σ2 ρ2 → (∀ j : Nat, j ∉ vs → σ2[j]? = (wipe σ vs)[j]? ∧ ρ2[j]? = (wipeE ρc vs)[j]?) → (∀ b, Own Hc σ2 ρ2 b → Own Hc (wipe σ vs) (wipeE ρc vs) b ∨ Hc b = none) → ¬ Own Hc σ2 ρ2 D →
              fB X scope ifs σ2 Hc fun b H3 => if b = true then iB X scope tg1 iter1 σ2 H3 fun J1 H4 => ∃ W1 : Nat → Nat → Hp → Prop, (∃ m, W1 0 m H4) ∧ ∀ j k H, W1 j k H →
                (J1.stop j H ∧ Nx H) ∨ (J1.go j H ∧ ∃ Nx1 : Hp → Prop, (∀ H', Nx1 H' → ∃ k', k' < k ∧ W1 (j + 1) k' H') ∧ ∀ x H', J1.yld j H x H' → gB X scope tg1 x (wipe σ2 vs1) H' fun σ3 H5 => wipe σ3 vs1 = wipe σ2 vs1 ∧ fB X scope ifs1 σ3 H5 fun b H6 =>
                  if b = true then eB X scope elt σ3 H6 fun y H7 => ∃ acc, H7 D = some (.lst acc) ∧ acc.length < sizeLine ∧ Nx1 (upd H7 D (.lst (acc ++ [y]))) else Nx1 H6)
              else Nx H3) →
              ∀ x H', J.yld i Hc x H' → gB X scope tg x (wipe σ vs) H' fun σ2 H2 => wipe σ2 vs = wipe σ vs ∧ fB X scope ifs σ2 H2 fun b H3 => if b = true then iB X scope tg1 iter1 σ2 H3 fun J1 H4 => ∃ W1 : Nat → Nat → Hp → Prop, (∃ m, W1 0 m H4) ∧ ∀ j k H, W1 j k H →
                (J1.stop j H ∧ Nx H) ∨ (J1.go j H ∧ ∃ Nx1 : Hp → Prop, (∀ H', Nx1 H' → ∃ k', k' < k ∧ W1 (j + 1) k' H') ∧ ∀ x H', J1.yld j H x H' → gB X scope tg1 x (wipe σ2 vs1) H' fun σ3 H5 => wipe σ3 vs1 = wipe σ2 vs1 ∧ fB X scope ifs1 σ3 H5 fun b H6 =>
                  if b = true then eB X scope elt σ3 H6 fun y H7 => ∃ acc, H7 D = some (.lst acc) ∧ acc.length < sizeLine ∧ Nx1 (upd H7 D (.lst (acc ++ [y]))) else Nx1 H6)
              else Nx H3 := fun {Nx} body x H'' hy => by
            obtain ⟨ex, dx⟩ := yl x H'' hy
            subst ex
            intro st2 H02 C cl fp
            have sw := pc.st.wiped vs
            refine hg _ (KnG.blk kn st2 H02 scope C cl fp) Gc H'' Gc H'' (wipe σ vs) (wipe σ vs) (wipeE ρc vs) (wipeE ρc vs) ρ2 x _ _ sw.postS (by rw [wipe_length]; exact hlen) (dx.mono gc) e2 fun σ2 hl2 p2 out => ?_
            have out' : ∀ j : Nat, j ∉ vs → σ2[j]? = (wipe σ vs)[j]? ∧ ρ2[j]? = (wipeE ρc vs)[j]? := fun j hj => out j fun z => hj (hsub j z)
            have hl2' : σ2.length = σ.length := hl2.trans hlen.symm
            refine ⟨?_, ?_⟩
            · rw [wipe_ext (by rw [wipe_length]; exact hl2') fun j hj => (out' j hj).1, wipe_wipe]
            have nD2 : ¬ Own H'' σ2 ρ2 D := fun o => by
              obtain ⟨k, u, v, _, h1, h2, f⟩ := own_blk pc.st p2.st out' p2.mm o
              exact nown ⟨k, u, v, h1, h2, f⟩
            exact body x σ2 hl2' p2.st out' p2.mm nD2
          split at em
          · rename_i ρ3 e3
            split at em
            · rename_i ds1 ρ4 e4
              split at em
              · cases em
              · rename_i ys ρ5 e5
                split at em
                · cases em
                · rename_i zs ρf' e6
                  cases em
                  refine .inr ⟨go, _, turn ρ5 ys zs e6 (by rw [List.append_assoc]; exact eL2), start fun x σ2 hl2 s2 out mm2 nD2 => ?_⟩
                  intro st2 H02 C cl fp
                  refine hc _ _ (kn.blk st2 H02 scope C cl fp) Gc Hc σ2 ρ2 _ s2 ?_
                  rw [e3]
                  intro G3 H3 p3
                  rw [if_pos rfl]
                  intro st3 H03 C3 cl3 fp3
                  refine hi1 _ _ (kn.blk st3 H03 scope C3 cl3 fp3) G3 H3 σ2 ρ3 _ p3.st ?_
                  rw [e4]
                  intro J1 G4 H4 p4 gv4
                  have p34 := p3.trans p4
                  have s2c := s2.cut nD2 gDc
                  have la : (acc ++ ys).length ≤ 1000000 := by
                    have h1 := of_decide_eq_true okL
                    have : (acc ++ ys).length ≤ L.length := by rw [← eL2, ← List.append_assoc, List.length_append (as := acc ++ ys)]; exact Nat.le_add_right _ _
                    omega
                  refine loop_go hg1 hsub1 hc1 he kn (hl2.trans hlen) s2c cut_same (PostX.base s2 p34 nD2) gv4 (p34.ext.hh D _ hDc nD2) ((p34.ext.gn D (by rw [hDc]; simp) nD2).trans gDc) (dacc.mono p34.ext.gg) e5 la fun Gf Hf accV' pf gf hDf gDf df => ?_
                  have mm2' : ∀ b, Own (PP.cut Hc D) σ2 ρ2 b → Own (PP.cut Hc D) (wipe σ vs) (wipeE ρc vs) b ∨ PP.cut Hc D b = none := fun b o => by
                    rcases mm2 b ((own_cut s2 nD2 b).mp o) with z | z
                    · exact .inl ((own_cut (pc.st.wiped vs) (fun o => by
                        obtain ⟨k, u, v, h1, h2, f⟩ := o
                        exact nown ⟨k, u, v, (wipe_some h1).1, (wipeE_some h2).1, f⟩) b).mpr z)
                    · exact .inr (by
                        by_cases e : b = D
                        · subst e; exact cut_same
                        · rw [cut_ne e]; exact z)
                  have pb := PostX.blk (pc.st.cut nown gDc) s2c hl2 out mm2' pf
                  exact ⟨Gf, accV', (pc.hide nown gDc HD).trans pb, fun a o h => gf a o (p34.ext.gg a o (gc a o h)), hDf, gDf, df⟩
            · cases em
          · rename_i ρ3 e3
            refine .inr ⟨go, _, turn ρ3 [] ys1 em (by rw [List.append_nil]; exact eL2), start fun x σ2 hl2 s2 out mm2 nD2 => ?_⟩
            intro st2 H02 C cl fp
            refine hc _ _ (kn.blk st2 H02 scope C cl fp) Gc Hc σ2 ρ2 _ s2 ?_
            rw [e3]
            intro G3 H3 p3
            rw [if_neg Bool.false_ne_true]
            have pb := PostX.blk pc.st s2 hl2 out mm2 p3
            exact ⟨G3, accV, pc.trans pb, fun a o h => p3.ext.gg a o (gc a o h), p3.ext.hh D _ hDc nD2, (p3.ext.gn D (by rw [hDc]; simp) nD2).trans gDc, by rw [List.append_nil]; exact dacc.mono p3.ext.gg⟩
          · cases em
      · have e0 : ds.drop i = [] := List.drop_eq_nil_of_le (by omega)
        rw [e0] at em
        unfold lc2M at em
        cases em
        rw [List.append_nil] at eL2
        subst eL2
        refine .inl ⟨gv2 (by omega), ?_⟩
        exact w1 _ _ _ ((pc.freeze hDc nown gDc HD).dat (.lst upd_same (dacc.mono fun a o h => by rw [upd_ne (ne_of_none h gDc)]; exact h)))
    · exact w1.elim
  · exact w1.elim

/-- a comprehension's value stored at once -/
theorem store_w {X : Cx} {W : WX} {G H : Hp} {σ : L2.St} {ρ : Env} {D : Ends} {i : Nat} {f : Ev} (kn : KnS Γ X sc N W) (hl : σ.length = N.length) (hN : i < N.length) (s : S8 X.K G H σ ρ) (w : WP (sSet np i f ρ) (SQ X.K np σ G H ρ D) (ExS Γ X.K W np σ G H ρ)) :
    WP (f ρ) (fun v ρ' => ∀ u G' H', PostE X.K σ G H ρ G' H' ρ' u v → gName i u σ H' D.nx) (ExQ Γ X.K W σ G H ρ) := by
  unfold sSet at w
  rw [WP_bnd] at w
  refine w.mono (fun v ρ1 w1 u G1 H1 pe => ?_) fun x ρ' hx => ExS.exQ s.postS hx
  unfold stV at w1
  split at w1
  · rename_i ρ' e
    exact w1 _ G1 H1 (S8.set (s.postS.trans pe.x.toS) (setV_nb e) pe.rv pe.fv (by rw [hl]; exact hN) e)
  · exact w1.elim

theorem sS_setLc {i : Nat} {y : Str} {py : Pos} {elt tg iter : Expr} {ifs : List Expr} {scope : Scope} {own : List (Str × Nat)} {vs is : List Nat} {pos spos : Pos} {it : EvI} {t : Tgt} {fc : EvB} {fe : Ev} (hN : N[i]? = some y) (hy : sc.names.lookup y = some .local) (hk : sc.kind = .function) (hln : (py.line == pos.line) = true) (han : (scope.names.any fun (n, k) => n == y && (k == .local || k == .cell)) = false) (hi : SndI Γ N sc tg iter it) (ok : blkC N sc scope own = true) (hvs : own.map (·.2) = vs) (hg : SndG N 0 (locB scope) is tg t) (hsub : ∀ j ∈ is, j ∈ vs) (hc : SndF Γ N (relS scope sc) ifs fc) (he : SndE Γ N (relS scope sc) elt fe) (hs : ∀ env x, foldedSetIterable iter env x = pure x := by intro _ _; rfl) :
    SndS Γ N np sc (.Assign [.Name y py] (.ListComp elt [⟨tg, iter, ifs, 0⟩] scope pos) spos) (sSet np i (cLc vs it t fc fe)) := by
  intro X W kn G H σ ρ D s hl w
  refine tS_of (ps_setLc (i := i) (wi := iSt X tg iter) (g := gB X scope tg) (tt := fB X scope ifs) (te := eB X scope elt) kn.calm (kn.nn ▸ kn.nd) (kn.nn ▸ hN) (kn.sc ▸ hy) (sw_true (kn.sc ▸ hk) (kn.sc ▸ hy) hln han) pi_star (kn.nn ▸ kn.sc ▸ blkOk_by ok)
    (fun s H C cl fp => ⟨fun pins st σ H v u Q I r h => h s _ C cl fp pins st u I r⟩) (fun s H C cl fp => ⟨fun pins st σ H Q I h => h s _ C cl fp pins st I⟩) (fun s H C cl fp => ⟨fun pins st σ H Q I h => h s _ C cl fp pins st I⟩) (hs X.env)) ?_
  rw [hvs]
  exact lc_tr hi ok hvs hg hsub hc he hs (X := X) (W := W) kn.toKn hl s (store_w kn hl (lt_of_get hN) s w)

theorem sS_setLcO {i : Nat} {y : Str} {py : Pos} {elt tg iter : Expr} {ifs : List Expr} {scope : Scope} {own : List (Str × Nat)} {vs is : List Nat} {pos spos : Pos} {it : EvI} {t : Tgt} {fc : EvB} {fe : Ev} (hN : N[i]? = some y) (hy : sc.names.lookup y = some .local) (hk : sc.kind = .function) (hln : (py.line == pos.line) = true) (han : (scope.names.any fun (n, k) => n == y && (k == .local || k == .cell)) = false) (hi : SndI Γ N sc tg iter it) (ok : blkC N sc scope own = true) (hvs : own.map (·.2) = vs) (hg : SndG N 0 (locB scope) is tg t) (hsub : ∀ j ∈ is, j ∈ vs) (hc : SndF Γ N (relS scope sc) ifs fc) (he : SndE Γ N (relS scope sc) elt fe) (hs : ∀ env x, foldedSetIterable iter env x = pure x := by intro _ _; rfl) :
    SndS Γ N np sc (.Assign [.Name y py] (.ListComp elt [⟨tg, iter, ifs, 0⟩] scope pos) spos) (sSet np i (cLcO vs it t fc fe)) := by
  intro X W kn G H σ ρ D s hl w
  refine tS_of (ps_setLc (i := i) (wi := iSt X tg iter) (g := gB X scope tg) (tt := fB X scope ifs) (te := eB X scope elt) kn.calm (kn.nn ▸ kn.nd) (kn.nn ▸ hN) (kn.sc ▸ hy) (sw_true (kn.sc ▸ hk) (kn.sc ▸ hy) hln han) pi_star (kn.nn ▸ kn.sc ▸ blkOk_by ok)
    (fun s H C cl fp => ⟨fun pins st σ H v u Q I r h => h s _ C cl fp pins st u I r⟩) (fun s H C cl fp => ⟨fun pins st σ H Q I h => h s _ C cl fp pins st I⟩) (fun s H C cl fp => ⟨fun pins st σ H Q I h => h s _ C cl fp pins st I⟩) (hs X.env)) ?_
  rw [hvs]
  exact lcO_tr hi ok hvs hg hsub hc he hs (X := X) (W := W) kn.toKn hl s (store_w kn hl (lt_of_get hN) s w)

theorem sS_setLc2 {i : Nat} {y : Str} {py : Pos} {elt tg iter tg1 iter1 : Expr} {ifs ifs1 : List Expr} {scope : Scope} {own : List (Str × Nat)} {vs vs1 is1 is : List Nat} {pos spos : Pos} {it it1 : EvI} {t t1 : Tgt} {fc fc1 : EvB} {fe : Ev} (hN : N[i]? = some y) (hy : sc.names.lookup y = some .local) (hk : sc.kind = .function) (hln : (py.line == pos.line) = true) (han : (scope.names.any fun (n, k) => n == y && (k == .local || k == .cell)) = false) (hi : SndI Γ N sc tg iter it) (ok : blkC N sc scope own = true) (hvs : own.map (·.2) = vs) (hv : ∀ i ∈ vs1, i ∈ vs) (hg : SndG N 0 (locB scope) is tg t) (hsub : ∀ j ∈ is, j ∈ vs) (hc : SndF Γ N (relS scope sc) ifs fc) (hi1 : SndI Γ N (relS scope sc) tg1 iter1 it1) (hg1 : SndG N 0 (locB scope) is1 tg1 t1) (hsub1 : ∀ j ∈ is1, j ∈ vs1) (hc1 : SndF Γ N (relS scope sc) ifs1 fc1) (he : SndE Γ N (relS scope sc) elt fe) (hs : ∀ env x, foldedSetIterable iter env x = pure x := by intro _ _; rfl) (hs1 : ∀ env x, foldedSetIterable iter1 env x = pure x := by intro _ _; rfl) :
    SndS Γ N np sc (.Assign [.Name y py] (.ListComp elt [⟨tg, iter, ifs, 0⟩, ⟨tg1, iter1, ifs1, 0⟩] scope pos) spos) (sSet np i (cLc2 vs vs1 it t fc it1 t1 fc1 fe)) := by
  intro X W kn G H σ ρ D s hl w
  refine tS_of (ps_setLc2 (i := i) (vs1 := vs1) (wi := iSt X tg iter) (g := gB X scope tg) (tt := fB X scope ifs) (wi1 := iB X scope tg1 iter1) (g1 := gB X scope tg1) (tt1 := fB X scope ifs1) (te := eB X scope elt) kn.calm (kn.nn ▸ kn.nd) (kn.nn ▸ hN) (kn.sc ▸ hy) (sw_true (kn.sc ▸ hk) (kn.sc ▸ hy) hln han) pi_star (kn.nn ▸ kn.sc ▸ blkOk_by ok) (by rw [hvs]; exact hv)
    (fun s H C cl fp => ⟨fun pins st σ H v u Q I r h => h s _ C cl fp pins st u I r⟩) (fun s H C cl fp => ⟨fun pins st σ H Q I h => h s _ C cl fp pins st I⟩) (fun s H C cl fp => ⟨fun pins st σ H Q I h => h s _ C cl fp pins st I⟩)
    (fun s H C cl fp => ⟨fun pins st σ H v u Q I r h => h s _ C cl fp pins st u I r⟩) (fun s H C cl fp => ⟨fun pins st σ H Q I h => h s _ C cl fp pins st I⟩) (fun s H C cl fp => ⟨fun pins st σ H Q I h => h s _ C cl fp pins st I⟩) (hs X.env) hs1) ?_
  rw [hvs]
  exact lc2_tr hi ok hvs hv hg hsub hc hi1 hg1 hsub1 hc1 he hs hs1 (X := X) (W := W) kn.toKn hl s (store_w kn hl (lt_of_get hN) s w)

theorem swaps_by {sc : Scope} {v : Expr} {tg : Option Expr} {l : Nat} {r : Sem Bool} (h : swapsWith v tg l (env0 sc) = r) : ∀ env : PySem.Env, env.scope = sc → swapsWith v tg l env = r := fun env e => by
  have hk : PySem.Env.kindOf env = PySem.Env.kindOf (env0 sc) := by
    funext x
    unfold PySem.Env.kindOf
    rw [e]
    rfl
  have hb : PySem.Env.blockKind env = PySem.Env.blockKind (env0 sc) := by
    unfold PySem.Env.blockKind
    rw [e]
    rfl
  have hs : env.scope = (env0 sc).scope := e
  rw [← h]
  unfold swapsWith
  rw [hk, hb, hs]
end
end PP

end
section
set_option maxHeartbeats 1000000
set_option Elab.async false
set_option linter.all false
set_option maxRecDepth 100000
/-! PQa: the pure layer worked out: what the combinators give on data. -/
namespace PP
open PySem PySem.Spec PyProof.Rows L2

/-! ### values -/
@[simp] theorem isMut_dat (d : PyData) : isMut (.dat d) = false := rfl
@[simp] theorem noBor_dat (d : PyData) : noBor (.dat d) = true := rfl
@[simp] theorem res_dat (ρ : Env) (d : PyData) : res ρ (.dat d) = some (.dat d) := rfl
@[simp] theorem lend_dat (i : Nat) (d : PyData) : lend i (.dat d) = (.dat d) := rfl
@[simp] theorem argOk_dat (d : PyData) : argOk (.dat d) = true := rfl
@[simp] theorem bors_dat (d : PyData) (vs : List Val) : bors ((.dat d) :: vs) = bors vs := rfl
@[simp] theorem wb_dat (d : PyData) (ρ : Env) (vs bs : List Val) (b : Val) : wb ρ ((.dat d) :: vs) (b :: bs) = wb ρ vs bs := rfl
@[simp] theorem isMut_ml (d : List PyData) : isMut (.ml d) = true := rfl
@[simp] theorem noBor_ml (d : List PyData) : noBor (.ml d) = true := rfl
@[simp] theorem res_ml (ρ : Env) (d : List PyData) : res ρ (.ml d) = some (.ml d) := rfl
@[simp] theorem lend_ml (i : Nat) (d : List PyData) : lend i (.ml d) = .bor i := rfl
@[simp] theorem argOk_ml (d : List PyData) : argOk (.ml d) = false := rfl
@[simp] theorem bors_ml (d : List PyData) (vs : List Val) : bors ((.ml d) :: vs) = bors vs := rfl
@[simp] theorem wb_ml (d : List PyData) (ρ : Env) (vs bs : List Val) (b : Val) : wb ρ ((.ml d) :: vs) (b :: bs) = wb ρ vs bs := rfl
@[simp] theorem isMut_mk (d : List (Key × PyData)) : isMut (.mk d) = true := rfl
@[simp] theorem noBor_mk (d : List (Key × PyData)) : noBor (.mk d) = true := rfl
@[simp] theorem res_mk (ρ : Env) (d : List (Key × PyData)) : res ρ (.mk d) = some (.mk d) := rfl
@[simp] theorem lend_mk (i : Nat) (d : List (Key × PyData)) : lend i (.mk d) = .bor i := rfl
@[simp] theorem argOk_mk (d : List (Key × PyData)) : argOk (.mk d) = false := rfl
@[simp] theorem bors_mk (d : List (Key × PyData)) (vs : List Val) : bors ((.mk d) :: vs) = bors vs := rfl
@[simp] theorem wb_mk (d : List (Key × PyData)) (ρ : Env) (vs bs : List Val) (b : Val) : wb ρ ((.mk d) :: vs) (b :: bs) = wb ρ vs bs := rfl
@[simp] theorem isMut_mt (d : List (List Key × PyData)) : isMut (.mt d) = true := rfl
@[simp] theorem noBor_mt (d : List (List Key × PyData)) : noBor (.mt d) = true := rfl
@[simp] theorem res_mt (ρ : Env) (d : List (List Key × PyData)) : res ρ (.mt d) = some (.mt d) := rfl
@[simp] theorem lend_mt (i : Nat) (d : List (List Key × PyData)) : lend i (.mt d) = .bor i := rfl
@[simp] theorem argOk_mt (d : List (List Key × PyData)) : argOk (.mt d) = false := rfl
@[simp] theorem bors_mt (d : List (List Key × PyData)) (vs : List Val) : bors ((.mt d) :: vs) = bors vs := rfl
@[simp] theorem wb_mt (d : List (List Key × PyData)) (ρ : Env) (vs bs : List Val) (b : Val) : wb ρ ((.mt d) :: vs) (b :: bs) = wb ρ vs bs := rfl
@[simp] theorem isMut_tp (p : Int) (d : List Int) : isMut (.tp p d) = true := rfl
@[simp] theorem noBor_tp (p : Int) (d : List Int) : noBor (.tp p d) = true := rfl
@[simp] theorem res_tp (ρ : Env) (p : Int) (d : List Int) : res ρ (.tp p d) = some (.tp p d) := rfl
@[simp] theorem lend_tp (i : Nat) (p : Int) (d : List Int) : lend i (.tp p d) = .bor i := rfl
@[simp] theorem argOk_tp (p : Int) (d : List Int) : argOk (.tp p d) = false := rfl
@[simp] theorem bors_tp (p : Int) (d : List Int) (vs : List Val) : bors ((.tp p d) :: vs) = bors vs := rfl
@[simp] theorem wb_tp (p : Int) (d : List Int) (ρ : Env) (vs bs : List Val) (b : Val) : wb ρ ((.tp p d) :: vs) (b :: bs) = wb ρ vs bs := rfl
@[simp] theorem isMut_scr (d : List Int) : isMut (.scr d) = false := rfl
@[simp] theorem noBor_scr (d : List Int) : noBor (.scr d) = true := rfl
@[simp] theorem res_scr (ρ : Env) (d : List Int) : res ρ (.scr d) = some (.scr d) := rfl
@[simp] theorem lend_scr (i : Nat) (d : List Int) : lend i (.scr d) = (.scr d) := rfl
@[simp] theorem argOk_scr (d : List Int) : argOk (.scr d) = true := rfl
@[simp] theorem bors_scr (d : List Int) (vs : List Val) : bors ((.scr d) :: vs) = bors vs := rfl
@[simp] theorem wb_scr (d : List Int) (ρ : Env) (vs bs : List Val) (b : Val) : wb ρ ((.scr d) :: vs) (b :: bs) = wb ρ vs bs := rfl
@[simp] theorem isMut_bor (i : Nat) : isMut (.bor i) = false := rfl
@[simp] theorem noBor_bor (i : Nat) : noBor (.bor i) = false := rfl
@[simp] theorem argOk_bor (i : Nat) : argOk (.bor i) = true := rfl
@[simp] theorem bors_nil : bors [] = [] := rfl
@[simp] theorem bors_bor (i : Nat) (vs : List Val) : bors (.bor i :: vs) = i :: bors vs := rfl
@[simp] theorem wb_nil (ρ : Env) : wb ρ [] [] = ρ := rfl
@[simp] theorem wb_bor (i : Nat) (ρ : Env) (vs bs : List Val) (b : Val) : wb ρ (.bor i :: vs) (b :: bs) = wb (ρ.set i (some b)) vs bs := rfl
theorem res_bor' {ρ : Env} {i : Nat} {v : Val} (h : ρ[i]? = some (some v)) (hm : isMut v = true) : res ρ (.bor i) = some v := by
  unfold res
  simp [h, hm]
@[simp] theorem resL_nil (ρ : Env) : resL ρ [] = some [] := rfl
@[simp] theorem resL_dat (ρ : Env) (d : PyData) (vs : List Val) : resL ρ (.dat d :: vs) = match resL ρ vs with | some as => some (.dat d :: as) | none => none := by
  rw [show resL ρ (.dat d :: vs) = (match res ρ (.dat d), resL ρ vs with | some a, some as => some (a :: as) | _, _ => none) from rfl, res_dat]
  cases resL ρ vs <;> rfl
@[simp] theorem resL_scr (ρ : Env) (d : List Int) (vs : List Val) : resL ρ (.scr d :: vs) = match resL ρ vs with | some as => some (.scr d :: as) | none => none := by
  rw [show resL ρ (.scr d :: vs) = (match res ρ (.scr d), resL ρ vs with | some a, some as => some (a :: as) | _, _ => none) from rfl, res_scr]
  cases resL ρ vs <;> rfl
@[simp] theorem resL_bor (ρ : Env) (i : Nat) (vs : List Val) : resL ρ (.bor i :: vs) = match res ρ (.bor i), resL ρ vs with | some a, some as => some (a :: as) | _, _ => none := rfl
@[simp] theorem noDup_nil : noDup [] = true := rfl
@[simp] theorem noDup_one (i : Nat) : noDup [i] = true := rfl
@[simp] theorem backs_nil (ρ : Env) : backs [] ρ = some [] := by cases ρ <;> rfl
@[simp] theorem backs_dat (d : PyData) (as : List Val) (o : Option Val) (ρ : Env) : backs (.dat d :: as) (o :: ρ) = match backs as ρ with | some bs => some (.dat d :: bs) | none => none := by
  rw [show backs ((.dat d) :: as) (o :: ρ) = (match backs as ρ with | none => none | some bs => if isMut (.dat d) = true then match o with | some w => if isMut w = true then some (w :: bs) else none | none => none else some ((.dat d) :: bs)) from rfl]
  cases backs as ρ <;> rfl
@[simp] theorem backs_scr (d : List Int) (as : List Val) (o : Option Val) (ρ : Env) : backs (.scr d :: as) (o :: ρ) = match backs as ρ with | some bs => some (.scr d :: bs) | none => none := by
  rw [show backs ((.scr d) :: as) (o :: ρ) = (match backs as ρ with | none => none | some bs => if isMut (.scr d) = true then match o with | some w => if isMut w = true then some (w :: bs) else none | none => none else some ((.scr d) :: bs)) from rfl]
  cases backs as ρ <;> rfl
@[simp] theorem backs_tp (p p' : Int) (c c' : List Int) (as : List Val) (ρ : Env) : backs (.tp p c :: as) (some (.tp p' c') :: ρ) = match backs as ρ with | some bs => some (.tp p' c' :: bs) | none => none := by
  rw [show backs ((.tp p c) :: as) ((some (.tp p' c')) :: ρ) = (match backs as ρ with | none => none | some bs => if isMut (.tp p c) = true then match (some (.tp p' c')) with | some w => if isMut w = true then some (w :: bs) else none | none => none else some ((.tp p c) :: bs)) from rfl]
  cases backs as ρ <;> rfl
@[simp] theorem backs_mk (k k' : List (Key × PyData)) (as : List Val) (ρ : Env) : backs (.mk k :: as) (some (.mk k') :: ρ) = match backs as ρ with | some bs => some (.mk k' :: bs) | none => none := by
  rw [show backs ((.mk k) :: as) ((some (.mk k')) :: ρ) = (match backs as ρ with | none => none | some bs => if isMut (.mk k) = true then match (some (.mk k')) with | some w => if isMut w = true then some (w :: bs) else none | none => none else some ((.mk k) :: bs)) from rfl]
  cases backs as ρ <;> rfl
@[simp] theorem dats_nil : dats [] = some [] := rfl
@[simp] theorem dats_cons (d : PyData) (vs : List Val) : dats (.dat d :: vs) = match dats vs with | some ds => some (d :: ds) | none => none := by
  rw [show dats (.dat d :: vs) = (match dats vs with | some ds => some (d :: ds) | none => none) from rfl]
/-- a call whose function is known -/
theorem callV_ok {Φ : Phi} {f : String} {vs as bs : List Val} {ρ : Env} {v : Val} (h1 : resL ρ vs = some as) (h2 : noDup (bors vs) = true) (h3 : Φ f as = some (.ok v bs)) (h4 : noBor v = true) (h5 : bs.length = as.length) : callV Φ f vs ρ = some (.ok v (wb ρ vs bs)) := by
  unfold callV
  rw [h1]
  simp only [h2, if_true, h3, h4, h5, and_self]
/-! ### operators on ints -/
@[simp] theorem e_addI (i j : Int) : oAdd (.dat (.int i)) (.dat (.int j)) = some (.int (i + j)) := rfl
@[simp] theorem e_subI (i j : Int) : oSub (.dat (.int i)) (.dat (.int j)) = some (.int (i - j)) := rfl
theorem e_mulI {i j : Int} (h : i.natAbs.log2 + j.natAbs.log2 < 1000000) : oMul (.dat (.int i)) (.dat (.int j)) = some (.int (i * j)) := by
  unfold oMul orO oMulI oI
  simp [h]
theorem log2_le {i : Int} {n : Nat} (h : i.natAbs < 2 ^ n) (hn : 0 < n) : i.natAbs.log2 < n := PySem.Flt.log2_lt_of hn h
theorem e_mulS {i j : Int} (h1 : i.natAbs < 2 ^ 200) (h2 : j.natAbs < 2 ^ 200) : oMul (.dat (.int i)) (.dat (.int j)) = some (.int (i * j)) := by
  have a := log2_le h1 (by decide)
  have b := log2_le h2 (by decide)
  exact e_mulI (by omega)
theorem e_fdv {i j : Int} (h : 0 < j) (h2 : j.natAbs < 2 ^ 200) : oFdv (.dat (.int i)) (.dat (.int j)) = some (.int (i / j)) := by
  have b := log2_le h2 (by decide)
  unfold oFdv oI
  simp only
  rw [if_pos (by rw [decide_eq_true_iff]; exact ⟨h, by omega⟩)]
theorem e_mod {i j : Int} (h : 0 < j) : oMod (.dat (.int i)) (.dat (.int j)) = some (.int (i % j)) := by
  unfold oMod oI
  simp [h]
@[simp] theorem e_ltI (i j : Int) : oLt (.dat (.int i)) (.dat (.int j)) = some (.bool (decide (i < j))) := rfl
@[simp] theorem e_leI (i j : Int) : oLe (.dat (.int i)) (.dat (.int j)) = some (.bool (decide (i ≤ j))) := rfl
@[simp] theorem e_gtI (i j : Int) : oGt (.dat (.int i)) (.dat (.int j)) = some (.bool (decide (j < i))) := rfl
@[simp] theorem e_geI (i j : Int) : oGe (.dat (.int i)) (.dat (.int j)) = some (.bool (decide (j ≤ i))) := rfl
theorem e_eqD {d e : PyData} (h : min d.depth e.depth ≤ 100) : oEqq (.dat d) (.dat e) = some (.bool (PyData.eqv d e)) := by
  unfold oEqq orO oEq oEqv
  simp [dOf, dpt, h]
theorem e_neD {d e : PyData} (h : min d.depth e.depth ≤ 100) : oNee (.dat d) (.dat e) = some (.bool (!PyData.eqv d e)) := by
  unfold oNee orO oNe oEqv
  simp [dOf, dpt, h]
@[simp] theorem e_eqI (i j : Int) : oEqq (.dat (.int i)) (.dat (.int j)) = some (.bool (i == j)) := by
  rw [e_eqD (by simp [PyData.depth])]
  simp [PyData.eqv]
@[simp] theorem e_neI (i j : Int) : oNee (.dat (.int i)) (.dat (.int j)) = some (.bool (i != j)) := by
  rw [e_neD (by simp [PyData.depth])]
  simp [PyData.eqv, bne]
@[simp] theorem e_isB (a b : Bool) : oIs (.dat (.bool a)) (.dat (.bool b)) = some (.bool (decide (a = b))) := by simp [oIs, oIsB]
@[simp] theorem e_isNotB (a b : Bool) : oIsNot (.dat (.bool a)) (.dat (.bool b)) = some (.bool (!decide (a = b))) := by simp [oIsNot, oIsB]
/-! ### subscripts -/
theorem atI_nat {α : Type} {l : List α} {n : Nat} {x : α} (h : l[n]? = some x) : L2.atI l (n : Int) = some x := by
  have hn : n < l.length := (List.getElem?_eq_some_iff.mp h).1
  unfold L2.atI ixN
  rw [if_pos (by omega), if_pos (by omega)]
  simpa using h
@[simp] theorem atI_0 {α : Type} {l : List α} {x : α} : L2.atI (x :: l) 0 = some x := atI_nat (n := 0) rfl
@[simp] theorem atI_1 {α : Type} {l : List α} {x y : α} : L2.atI (x :: y :: l) 1 = some y := atI_nat (n := 1) rfl
@[simp] theorem atI_2 {α : Type} {l : List α} {x y z : α} : L2.atI (x :: y :: z :: l) 2 = some z := atI_nat (n := 2) rfl
@[simp] theorem atI_3 {α : Type} {l : List α} {x y z t : α} : L2.atI (x :: y :: z :: t :: l) 3 = some t := atI_nat (n := 3) rfl
@[simp] theorem e_ixT (ds : List PyData) (i : Int) : oIx (.dat (.tuple ds)) (.dat (.int i)) = L2.atI ds i := rfl
@[simp] theorem e_ixL (ds : List PyData) (i : Int) : oIx (.dat (.list ds)) (.dat (.int i)) = L2.atI ds i := rfl
@[simp] theorem e_ixM (ds : List PyData) (i : Int) : oIx (.ml ds) (.dat (.int i)) = L2.atI ds i := rfl
/-! ### the block of a comprehension over one name -/
theorem rest_self {ρ : Env} {v : Nat} {o : Option Val} (h : v < ρ.length) : rest ρ ((wipeE ρ [v]).set v o) [v] = ρ := by
  simp only [rest, wipeE, atE]
  refine List.ext_getElem? fun j => ?_
  rw [List.getElem?_eq_getElem h]
  by_cases e : v = j
  · subst e
    rw [List.getElem?_set_self (by simpa using h), List.getElem?_eq_getElem h]
  · rw [List.getElem?_set_ne e, List.getElem?_set_ne e, List.getElem?_set_ne e]
/-- each turn leaves what it found -/
theorem lcM_pure {vs : List Nat} {t : Tgt} {c : EvB} {e : Ev} {ρ : Env} (h : PyData → Option PyData) : ∀ {ds : List PyData}, (∀ d ∈ ds, ∃ ρ2, t d (wipeE ρ vs) = some ρ2 ∧ lcStep c e ρ2 = some (h d, ρ2) ∧ rest ρ ρ2 vs = ρ) → lcM vs t c e ds ρ = some (ds.filterMap h, ρ)
  | [], _ => rfl
  | d :: ds, H => by
    obtain ⟨ρ2, h1, h2, h3⟩ := H d List.mem_cons_self
    unfold lcM
    rw [h1]
    simp only [h2, h3]
    rw [lcM_pure h (fun d hd => H d (List.mem_cons_of_mem _ hd))]
    simp only [List.filterMap_cons]
    cases h d <;> rfl
theorem lc_name {v : Nat} {c : EvB} {e : Ev} {ρ : Env} {ds : List PyData} (hv : v < ρ.length) (h : PyData → Option PyData) (H : ∀ d ∈ ds, lcStep c e ((wipeE ρ [v]).set v (some (.dat d))) = some (h d, (wipeE ρ [v]).set v (some (.dat d)))) : lcM [v] (tName 0 v) c e ds ρ = some (ds.filterMap h, ρ) := by
  refine lcM_pure h fun d hd => ⟨_, ?_, H d hd, rest_self hv⟩
  simp [tName, setV, setOk, noBor]
theorem step_yes {c : EvB} {e : Ev} {ρ : Env} {d : PyData} (h1 : c ρ = some (.ok true ρ)) (h2 : e ρ = some (.ok (.dat d) ρ)) : lcStep c e ρ = some (some d, ρ) := by
  unfold lcStep
  rw [h1]
  simp only [h2]
theorem step_no {c : EvB} {e : Ev} {ρ : Env} (h1 : c ρ = some (.ok false ρ)) : lcStep c e ρ = some (none, ρ) := by
  unfold lcStep
  rw [h1]
end PP

end
section
set_option maxHeartbeats 1000000
set_option Elab.async false
set_option linter.all false
set_option maxRecDepth 100000
/-! PQb: the pure layer worked out: comprehensions and loops over lists of encoded things. -/
namespace PP
open PySem PySem.Spec PyProof.Rows L2

section
variable {α : Type}
theorem lcM_map {vs : List Nat} {t : Tgt} {c : EvB} {e : Ev} {ρ : Env} (enc : α → PyData) (h : α → Option PyData) (ρ2 : α → Env) : ∀ (xs : List α), (∀ x ∈ xs, t (enc x) (wipeE ρ vs) = some (ρ2 x) ∧ lcStep c e (ρ2 x) = some (h x, ρ2 x) ∧ rest ρ (ρ2 x) vs = ρ) → lcM vs t c e (xs.map enc) ρ = some (xs.filterMap h, ρ)
  | [], _ => rfl
  | x :: xs, H => by
    obtain ⟨h1, h2, h3⟩ := H x List.mem_cons_self
    rw [List.map_cons]
    unfold lcM
    rw [h1]
    simp only [h2, h3]
    rw [lcM_map enc h ρ2 xs (fun y hy => H y (List.mem_cons_of_mem _ hy))]
    simp only [List.filterMap_cons]
    cases h x <;> rfl
/-- [e for v in it if c] -/
theorem lc_map {v : Nat} {it : EvI} {c : EvB} {e : Ev} {ρ : Env} (xs : List α) (enc : α → PyData) (h : α → Option PyData) (hi : it ρ = some (.ok (xs.map enc) ρ)) (hv : v < ρ.length) (hl : xs.length ≤ 1000000)
    (H : ∀ x ∈ xs, lcStep c e ((wipeE ρ [v]).set v (some (.dat (enc x)))) = some (h x, (wipeE ρ [v]).set v (some (.dat (enc x))))) : cLc [v] it (tName 0 v) c e ρ = some (.ok (.dat (.list (xs.filterMap h))) ρ) := by
  unfold cLc
  rw [hi, bnd_ok, lcM_map enc h (fun x => (wipeE ρ [v]).set v (some (.dat (enc x)))) xs fun x hx => ⟨by simp [tName, setV, setOk], H x hx, rest_self hv⟩]
  have : (xs.filterMap h).length ≤ 1000000 := Nat.le_trans (List.length_filterMap_le h xs) hl
  simp [finLc, okLen, this]
/-- .. that makes an owned list -/
theorem lcO_map {v : Nat} {it : EvI} {c : EvB} {e : Ev} {ρ : Env} (xs : List α) (enc : α → PyData) (h : α → Option PyData) (hi : it ρ = some (.ok (xs.map enc) ρ)) (hv : v < ρ.length) (hl : xs.length ≤ 1000000)
    (H : ∀ x ∈ xs, lcStep c e ((wipeE ρ [v]).set v (some (.dat (enc x)))) = some (h x, (wipeE ρ [v]).set v (some (.dat (enc x))))) : cLcO [v] it (tName 0 v) c e ρ = some (.ok (.ml (xs.filterMap h)) ρ) := by
  unfold cLcO
  rw [hi, bnd_ok, lcM_map enc h (fun x => (wipeE ρ [v]).set v (some (.dat (enc x)))) xs fun x hx => ⟨by simp [tName, setV, setOk], H x hx, rest_self hv⟩]
  have : (xs.filterMap h).length ≤ 1000000 := Nat.le_trans (List.length_filterMap_le h xs) hl
  simp [finLcO, okLen, this]
theorem rest_self2 {ρ : Env} {v u : Nat} {o p : Option Val} (h : v < ρ.length) (h2 : u < ρ.length) : rest ρ (((wipeE ρ [v, u]).set v o).set u p) [v, u] = ρ := by
  simp only [rest, wipeE, atE]
  refine List.ext_getElem? fun j => ?_
  rw [List.getElem?_eq_getElem h, List.getElem?_eq_getElem h2]
  by_cases e : v = j
  · subst e
    rw [List.getElem?_set_self (by simpa using h), List.getElem?_eq_getElem h]
  · rw [List.getElem?_set_ne e]
    by_cases e2 : u = j
    · subst e2
      rw [List.getElem?_set_self (by simpa using h2), List.getElem?_eq_getElem h2]
    · rw [List.getElem?_set_ne e2, List.getElem?_set_ne e2, List.getElem?_set_ne e, List.getElem?_set_ne e, List.getElem?_set_ne e2]
/-- [e for v, u in it if c] -/
theorem lc_pair {v u : Nat} {it : EvI} {c : EvB} {e : Ev} {ρ : Env} (xs : List α) (e1 e2 : α → PyData) (h : α → Option PyData) (hi : it ρ = some (.ok (xs.map fun x => .tuple [e1 x, e2 x]) ρ)) (hv : v < ρ.length) (hu : u < ρ.length) (hl : xs.length ≤ 1000000)
    (H : ∀ x ∈ xs, lcStep c e (((wipeE ρ [v, u]).set v (some (.dat (e1 x)))).set u (some (.dat (e2 x)))) = some (h x, ((wipeE ρ [v, u]).set v (some (.dat (e1 x)))).set u (some (.dat (e2 x))))) : cLc [v, u] it (tPair 0 v u) c e ρ = some (.ok (.dat (.list (xs.filterMap h))) ρ) := by
  unfold cLc
  rw [hi, bnd_ok, lcM_map (fun x => .tuple [e1 x, e2 x]) h (fun x => ((wipeE ρ [v, u]).set v (some (.dat (e1 x)))).set u (some (.dat (e2 x)))) xs fun x hx => ⟨by simp [tPair, setV, setOk], H x hx, rest_self2 hv hu⟩]
  have : (xs.filterMap h).length ≤ 1000000 := Nat.le_trans (List.length_filterMap_le h xs) hl
  simp [finLc, okLen, this]
end
theorem filterMap_some {α β : Type} (f : α → β) (l : List α) : l.filterMap (fun x => some (f x)) = l.map f := by
  induction l with
  | nil => rfl
  | cons x l ih => simp [ih]
theorem filterMap_if {α β : Type} (p : α → Bool) (f : α → β) (l : List α) : l.filterMap (fun x => if p x = true then some (f x) else none) = (l.filter p).map f := by
  induction l with
  | nil => rfl
  | cons x l ih =>
    by_cases h : p x = true
    · simp [h, ih]
    · simp [h, ih]
/-- ranges -/
theorem rng_enc (n : Nat) : rngI 0 n = (List.range n).map fun i : Nat => .int (i : Int) := by
  unfold rngI
  simp
theorem inR_nat {n : Nat} (h : n < 1000000) : inR (n : Int) = true := by
  unfold inR
  rw [decide_eq_true_iff]
  omega
/-! ### built-ins -/
@[simp] theorem e_all (bs : List Bool) : bAll (fun bs => bs.all id) [.dat (.list (bs.map .bool))] = some (.dat (.bool (bs.all id))) := by
  simp [bAll, lOf, boolsOf_of]
@[simp] theorem e_any (bs : List Bool) : bAll (fun bs => bs.any id) [.dat (.list (bs.map .bool))] = some (.dat (.bool (bs.any id))) := by
  simp [bAll, lOf, boolsOf_of]
@[simp] theorem e_sumT (ns : List Int) : bSum [.dat (.tuple (ns.map .int))] = some (.dat (.int ns.sum)) := by
  simp [bSum, sOf, intsOf_of]
@[simp] theorem e_sumL (ns : List Int) : bSum [.dat (.list (ns.map .int))] = some (.dat (.int ns.sum)) := by
  simp [bSum, sOf, intsOf_of]
@[simp] theorem e_lenT (ds : List PyData) : bLen [.dat (.tuple ds)] = some (.dat (.int ds.length)) := rfl
@[simp] theorem e_lenL (ds : List PyData) : bLen [.dat (.list ds)] = some (.dat (.int ds.length)) := rfl
@[simp] theorem e_lenM (ds : List PyData) : bLen [.ml ds] = some (.dat (.int ds.length)) := rfl
@[simp] theorem e_tupL (ds : List PyData) : bTup [.dat (.list ds)] = some (.dat (.tuple ds)) := rfl
@[simp] theorem e_absI (i : Int) : bAbs [.dat (.int i)] = some (.dat (.int (i.natAbs : Int))) := by
  have : (if i < 0 then -i else i) = (i.natAbs : Int) := by split <;> omega
  simp [bAbs, this]
@[simp] theorem e_intI (i : Int) : bInt [.dat (.int i)] = some (.dat (.int i)) := rfl
@[simp] theorem e_intB (b : Bool) : bInt [.dat (.bool b)] = some (.dat (.int (if b then 1 else 0))) := rfl
/-! ### isinstance -/
@[simp] theorem k_it : kitB "int" "tuple" = some false := by decide +kernel
@[simp] theorem k_tt : kitB "tuple" "tuple" = some true := by decide +kernel
@[simp] theorem k_lt : kitB "list" "tuple" = some false := by decide +kernel
@[simp] theorem k_nt : kitB "NoneType" "tuple" = some false := by decide +kernel
@[simp] theorem k_st : kitB "str" "tuple" = some false := by decide +kernel
@[simp] theorem k_bt : kitB "bool" "tuple" = some false := by decide +kernel
@[simp] theorem k_ii : kitB "int" "int" = some true := by decide +kernel
@[simp] theorem k_bi : kitB "bool" "int" = some true := by decide +kernel
@[simp] theorem k_si : kitB "str" "int" = some false := by decide +kernel
@[simp] theorem k_ib : kitB "int" "bool" = some false := by decide +kernel
@[simp] theorem k_bb : kitB "bool" "bool" = some true := by decide +kernel
@[simp] theorem k_ss : kitB "str" "str" = some true := by decide +kernel
@[simp] theorem tyN_int (i : Int) : tyN (.dat (.int i)) = some "int" := rfl
@[simp] theorem tyN_bool (i : Bool) : tyN (.dat (.bool i)) = some "bool" := rfl
@[simp] theorem tyN_str (i : Str) : tyN (.dat (.str i)) = some "str" := rfl
@[simp] theorem tyN_none : tyN (.dat .none) = some "NoneType" := rfl
@[simp] theorem tyN_tup (ds : List PyData) : tyN (.dat (.tuple ds)) = some "tuple" := rfl
@[simp] theorem tyN_list (ds : List PyData) : tyN (.dat (.list ds)) = some "list" := rfl
/-! ### built-ins over what is worked out -/
theorem b1 {op : Built} {f : Ev} {ρ : Env} {d : PyData} {w : Val} (h : f ρ = some (.ok (.dat d) ρ)) (ho : op [.dat d] = some w) : cB op (aCons f aNil) ρ = some (.ok w ρ) := by
  simp [cB, aCons, aNil, h, finB, ho]
theorem b1_all {f : Ev} {ρ : Env} {bs : List Bool} (h : f ρ = some (.ok (.dat (.list (bs.map .bool))) ρ)) : cB (bAll fun bs => bs.all id) (aCons f aNil) ρ = some (.ok (.dat (.bool (bs.all id))) ρ) := b1 h (e_all bs)
theorem b1_any {f : Ev} {ρ : Env} {bs : List Bool} (h : f ρ = some (.ok (.dat (.list (bs.map .bool))) ρ)) : cB (bAll fun bs => bs.any id) (aCons f aNil) ρ = some (.ok (.dat (.bool (bs.any id))) ρ) := b1 h (e_any bs)
theorem b1_len {f : Ev} {ρ : Env} {ds : List PyData} (h : f ρ = some (.ok (.dat (.list ds)) ρ)) : cB bLen (aCons f aNil) ρ = some (.ok (.dat (.int ds.length)) ρ) := b1 h rfl
theorem b1_lenT {f : Ev} {ρ : Env} {ds : List PyData} (h : f ρ = some (.ok (.dat (.tuple ds)) ρ)) : cB bLen (aCons f aNil) ρ = some (.ok (.dat (.int ds.length)) ρ) := b1 h rfl
theorem b1_tup {f : Ev} {ρ : Env} {ds : List PyData} (h : f ρ = some (.ok (.dat (.list ds)) ρ)) : cB bTup (aCons f aNil) ρ = some (.ok (.dat (.tuple ds)) ρ) := b1 h rfl
theorem b1_sum {f : Ev} {ρ : Env} {ns : List Int} (h : f ρ = some (.ok (.dat (.list (ns.map .int))) ρ)) : cB bSum (aCons f aNil) ρ = some (.ok (.dat (.int ns.sum)) ρ) := b1 h (e_sumL ns)
theorem b1_sumT {f : Ev} {ρ : Env} {ns : List Int} (h : f ρ = some (.ok (.dat (.tuple (ns.map .int))) ρ)) : cB bSum (aCons f aNil) ρ = some (.ok (.dat (.int ns.sum)) ρ) := b1 h (e_sumT ns)
/-- operators over what is worked out -/
theorem bin {op : Op2} {fa fb : Ev} {ρ : Env} {a b : PyData} {d : PyData} (h1 : fa ρ = some (.ok (.dat a) ρ)) (h2 : fb ρ = some (.ok (.dat b) ρ)) (ho : op (.dat a) (.dat b) = some d) : cBin op fa fb ρ = some (.ok (.dat d) ρ) := by
  simp [cBin, h1, h2, fin2, ho]
theorem ixT {fa fb : Ev} {ρ : Env} {ds : List PyData} {i : Int} {d : PyData} (h1 : fa ρ = some (.ok (.dat (.tuple ds)) ρ)) (h2 : fb ρ = some (.ok (.dat (.int i)) ρ)) (ho : L2.atI ds i = some d) : cBin oIx fa fb ρ = some (.ok (.dat d) ρ) := bin h1 h2 ho
theorem ixL {fa fb : Ev} {ρ : Env} {ds : List PyData} {i : Int} {d : PyData} (h1 : fa ρ = some (.ok (.dat (.list ds)) ρ)) (h2 : fb ρ = some (.ok (.dat (.int i)) ρ)) (ho : L2.atI ds i = some d) : cBin oIx fa fb ρ = some (.ok (.dat d) ρ) := bin h1 h2 ho
theorem tst {f : Ev} {ρ : Env} {b : Bool} (h : f ρ = some (.ok (.dat (.bool b)) ρ)) : cTst f ρ = some (.ok b ρ) := by simp [cTst, h, asB]
/-- a def called with data -/
theorem call1 {Φ : Phi} {f : String} {fa : Ev} {ρ : Env} {a : PyData} {v : PyData} (h1 : fa ρ = some (.ok (.dat a) ρ)) (h : Φ f [.dat a] = some (.ok (.dat v) [.dat a])) : cCall Φ f (aCons fa aNil) ρ = some (.ok (.dat v) ρ) := by
  have hc : callV Φ f [.dat a] ρ = some (.ok (.dat v) ρ) := callV_ok (by simp) rfl h rfl rfl
  simp [cCall, aCons, aNil, h1, hc]
theorem call2 {Φ : Phi} {f : String} {fa fb : Ev} {ρ : Env} {a b : PyData} {v : PyData} (h1 : fa ρ = some (.ok (.dat a) ρ)) (h2 : fb ρ = some (.ok (.dat b) ρ)) (h : Φ f [.dat a, .dat b] = some (.ok (.dat v) [.dat a, .dat b])) : cCall Φ f (aCons fa (aCons fb aNil)) ρ = some (.ok (.dat v) ρ) := by
  have hc : callV Φ f [.dat a, .dat b] ρ = some (.ok (.dat v) ρ) := callV_ok (by simp) rfl h rfl rfl
  simp [cCall, aCons, aNil, h1, h2, hc]
theorem call3 {Φ : Phi} {f : String} {fa fb fc : Ev} {ρ : Env} {a b c : PyData} {v : PyData} (h1 : fa ρ = some (.ok (.dat a) ρ)) (h2 : fb ρ = some (.ok (.dat b) ρ)) (h3 : fc ρ = some (.ok (.dat c) ρ)) (h : Φ f [.dat a, .dat b, .dat c] = some (.ok (.dat v) [.dat a, .dat b, .dat c])) : cCall Φ f (aCons fa (aCons fb (aCons fc aNil))) ρ = some (.ok (.dat v) ρ) := by
  have hc : callV Φ f [.dat a, .dat b, .dat c] ρ = some (.ok (.dat v) ρ) := callV_ok (by simp) rfl h rfl rfl
  simp [cCall, aCons, aNil, h1, h2, h3, hc]
theorem var {ρ : Env} {i : Nat} {d : PyData} (h : ρ[i]? = some (some (.dat d))) : cVar i ρ = some (.ok (.dat d) ρ) := by simp [cVar, h]
theorem isT {T n : String} {f : Ev} {ρ : Env} {d : PyData} {b : Bool} (h : f ρ = some (.ok (.dat d) ρ)) (h1 : tyN (.dat d) = some n) (h2 : kitB n T = some b) : cIs T f ρ = some (.ok (.dat (.bool b)) ρ) := by
  simp [cIs, h, finIs, h1, h2]
theorem and1 {f g : Ev} {ρ : Env} {a b : Bool} (h1 : f ρ = some (.ok (.dat (.bool a)) ρ)) (h2 : a = true → g ρ = some (.ok (.dat (.bool b)) ρ)) : cAnd f g ρ = some (.ok (.dat (.bool (a && b))) ρ) := by
  cases a with
  | false => simp [cAnd, h1, asB]
  | true => simp [cAnd, h1, asB, h2 rfl]
theorem or1 {f g : Ev} {ρ : Env} {a b : Bool} (h1 : f ρ = some (.ok (.dat (.bool a)) ρ)) (h2 : a = false → g ρ = some (.ok (.dat (.bool b)) ρ)) : cOr f g ρ = some (.ok (.dat (.bool (a || b))) ρ) := by
  cases a with
  | true => simp [cOr, h1, asB]
  | false => simp [cOr, h1, asB, h2 rfl]
theorem not1 {f : Ev} {ρ : Env} {a : Bool} (h1 : f ρ = some (.ok (.dat (.bool a)) ρ)) : cNot f ρ = some (.ok (.dat (.bool (!a))) ρ) := by simp [cNot, h1, asB]
theorem orB1 {f g : EvB} {ρ : Env} {a b : Bool} (h1 : f ρ = some (.ok a ρ)) (h2 : a = false → g ρ = some (.ok b ρ)) : cOrB f g ρ = some (.ok (a || b) ρ) := by
  cases a with
  | true => simp [cOrB, h1]
  | false => simp [cOrB, h1, h2 rfl]
theorem andB1 {f g : EvB} {ρ : Env} {a b : Bool} (h1 : f ρ = some (.ok a ρ)) (h2 : a = true → g ρ = some (.ok b ρ)) : cAndB f g ρ = some (.ok (a && b) ρ) := by
  cases a with
  | false => simp [cAndB, h1]
  | true => simp [cAndB, h1, h2 rfl]
theorem notB1 {f : EvB} {ρ : Env} {a : Bool} (h1 : f ρ = some (.ok a ρ)) : cNotB f ρ = some (.ok (!a) ρ) := by simp [cNotB, h1]
theorem const (d : PyData) (ρ : Env) : cC d ρ = some (.ok (.dat d) ρ) := rfl
theorem chain_le {fa fb fc : Ev} {ρ : Env} {a b c : Int} (h1 : fa ρ = some (.ok (.dat (.int a)) ρ)) (h2 : fb ρ = some (.ok (.dat (.int b)) ρ)) (h3 : fc ρ = some (.ok (.dat (.int c)) ρ)) : cChain oLe oLe fa fb fc ρ = some (.ok (.dat (.bool (decide (a ≤ b) && decide (b ≤ c)))) ρ) := by
  have e : ∀ (i j : Int) (ρ : Env), fin2 oLe (.dat (.int i)) (.dat (.int j)) ρ = some (.ok (.dat (.bool (decide (i ≤ j)))) ρ) := fun i j ρ => by simp [fin2]
  unfold cChain
  rw [h1, bnd_ok, h2, bnd_ok, e, bnd_ok]
  simp only [asB, bnd_ok]
  by_cases h : a ≤ b
  · simp [h, h3, e]
  · simp [h]
/-- an if whose test is known -/
theorem if_no {c : EvB} {f g : Ex} {ρ : Env} (h : c ρ = some (.ok false ρ)) : sIf c f g ρ = g ρ := by simp [sIf, h]
theorem if_yes {c : EvB} {f g : Ex} {ρ : Env} (h : c ρ = some (.ok true ρ)) : sIf c f g ρ = f ρ := by simp [sIf, h]
theorem seq_nx {f g : Ex} {ρ ρ1 : Env} (h : f ρ = some (.ok .nx ρ1)) : bSeq f g ρ = g ρ1 := by simp [bSeq, h]
theorem seq_rt {f g : Ex} {ρ ρ1 : Env} {v : Val} (h : f ρ = some (.ok (.rt v) ρ1)) : bSeq f g ρ = some (.ok (.rt v) ρ1) := by simp [bSeq, h]
theorem ret_d {f : Ev} {ρ ρ1 : Env} {d : PyData} (h : f ρ = some (.ok (.dat d) ρ1)) : sRet f ρ = some (.ok (.rt (.dat d)) ρ1) := by simp [sRet, h]
theorem set_d {np i : Nat} {f : Ev} {ρ ρ1 : Env} {d : PyData} (h : f ρ = some (.ok (.dat d) ρ1)) (hi : np ≤ i) : sSet np i f ρ = some (.ok .nx (ρ1.set i (some (.dat d)))) := by
  have : ¬ i < np := by omega
  simp [sSet, h, stV, setV, setOk, this]
/-- a def whose arguments are data -/
def allDat (as : List Val) : Bool := as.all fun a => match a with
  | .dat _ => true
  | _ => false
theorem backs_data : ∀ {as : List Val} {ρ : Env}, allDat as = true → as.length ≤ ρ.length → backs as ρ = some as
  | [], ρ, _, _ => backs_nil ρ
  | a :: as, [], _, h => by simp at h
  | a :: as, o :: ρ, h, hl => by
    unfold allDat at h
    rw [List.all_cons, Bool.and_eq_true] at h
    have ih := backs_data (as := as) (ρ := ρ) h.2 (by simpa using hl)
    cases a with
    | dat d => rw [backs_dat, ih]
    | _ => simp at h
theorem run_d {np nN : Nat} {body : Ex} {as : List Val} {v : Val} {ρ : Env} (h0 : as.length = np) (h : body (as.map some ++ List.replicate (nN - np) none) = some (.ok (.rt v) ρ)) (hl : np ≤ ρ.length) (hd : allDat as = true) : runFn np nN body as = some (.ok v as) := by
  unfold runFn
  rw [if_pos h0, h]
  simp [finFn, backs_data hd (h0.symm ▸ hl)]
/-- a loop whose turns leave but their own name -/
theorem forL_keep {α : Type} {np v : Nat} {body : Ex} (hv : np ≤ v) {ρ0 : Env} (enc : α → PyData) : ∀ (xs : List α), (∀ x ∈ xs, body (ρ0.set v (some (.dat (enc x)))) = some (.ok .nx (ρ0.set v (some (.dat (enc x)))))) → ∀ o, ∃ o', forL (tName np v) body (xs.map enc) (ρ0.set v o) = some (.ok .nx (ρ0.set v o'))
  | [], _, o => ⟨o, rfl⟩
  | x :: xs, H, o => by
    have hn : ¬ v < np := by omega
    obtain ⟨o', ih⟩ := forL_keep hv enc xs (fun y hy => H y (List.mem_cons_of_mem _ hy)) (some (.dat (enc x)))
    refine ⟨o', ?_⟩
    rw [List.map_cons]
    unfold forL
    have ht : tName np v (enc x) (ρ0.set v o) = some (ρ0.set v (some (.dat (enc x)))) := by
      simp [tName, setV, setOk, hn]
    rw [ht]
    simp only
    rw [H x List.mem_cons_self, bnd_ok]
    exact ih
@[simp] theorem set_self' {ρ : Env} {v : Nat} {o : Option Val} (h : ρ[v]? = some o) : ρ.set v o = ρ := by
  refine List.ext_getElem? fun j => ?_
  by_cases e : v = j
  · subst e
    rw [List.getElem?_set_self (List.getElem?_eq_some_iff.mp h).1, h]
  · rw [List.getElem?_set_ne e]
end PP

end
section
set_option maxHeartbeats 1000000
set_option Elab.async false
set_option linter.all false
set_option maxRecDepth 100000
/-! PQc: comprehensions by maps and filters, iterators, membership. -/
namespace PP
open PySem PySem.Spec PyProof.Rows L2

def iz (l : List Nat) : List PyData := l.map fun i : Nat => .int (i : Int)
def nl (l : List Nat) : PyData := .list (iz l)
section
variable {α : Type} {v u : Nat} {it : EvI} {c : EvB} {e : Ev} {ρ : Env}
theorem lc_m (xs : List α) (enc f : α → PyData) (hi : it ρ = some (.ok (xs.map enc) ρ)) (hv : v < ρ.length) (hl : xs.length ≤ 1000000)
    (H : ∀ x ∈ xs, e ((wipeE ρ [v]).set v (some (.dat (enc x)))) = some (.ok (.dat (f x)) ((wipeE ρ [v]).set v (some (.dat (enc x)))))) : cLc [v] it (tName 0 v) cYes e ρ = some (.ok (.dat (.list (xs.map f))) ρ) := by
  rw [← filterMap_some]
  exact lc_map xs enc _ hi hv hl fun x hx => step_yes rfl (H x hx)
theorem lc_mb (xs : List α) (enc : α → PyData) (f : α → Bool) (hi : it ρ = some (.ok (xs.map enc) ρ)) (hv : v < ρ.length) (hl : xs.length ≤ 1000000)
    (H : ∀ x ∈ xs, e ((wipeE ρ [v]).set v (some (.dat (enc x)))) = some (.ok (.dat (.bool (f x))) ((wipeE ρ [v]).set v (some (.dat (enc x)))))) : cLc [v] it (tName 0 v) cYes e ρ = some (.ok (.dat (.list ((xs.map f).map .bool))) ρ) := by
  rw [List.map_map]
  exact lc_m xs enc (fun x => .bool (f x)) hi hv hl H
theorem lc_mi (xs : List α) (enc : α → PyData) (f : α → Int) (hi : it ρ = some (.ok (xs.map enc) ρ)) (hv : v < ρ.length) (hl : xs.length ≤ 1000000)
    (H : ∀ x ∈ xs, e ((wipeE ρ [v]).set v (some (.dat (enc x)))) = some (.ok (.dat (.int (f x))) ((wipeE ρ [v]).set v (some (.dat (enc x)))))) : cLc [v] it (tName 0 v) cYes e ρ = some (.ok (.dat (.list ((xs.map f).map .int))) ρ) := by
  rw [List.map_map]
  exact lc_m xs enc (fun x => .int (f x)) hi hv hl H
theorem lc_f (xs : List α) (enc : α → PyData) (p : α → Bool) (f : α → PyData) (hi : it ρ = some (.ok (xs.map enc) ρ)) (hv : v < ρ.length) (hl : xs.length ≤ 1000000)
    (Hc : ∀ x ∈ xs, c ((wipeE ρ [v]).set v (some (.dat (enc x)))) = some (.ok (p x) ((wipeE ρ [v]).set v (some (.dat (enc x))))))
    (H : ∀ x ∈ xs, p x = true → e ((wipeE ρ [v]).set v (some (.dat (enc x)))) = some (.ok (.dat (f x)) ((wipeE ρ [v]).set v (some (.dat (enc x)))))) : cLc [v] it (tName 0 v) c e ρ = some (.ok (.dat (.list ((xs.filter p).map f))) ρ) := by
  rw [← filterMap_if]
  refine lc_map xs enc _ hi hv hl fun x hx => ?_
  cases hp : p x with
  | true => exact step_yes (hp ▸ Hc x hx) (H x hx hp)
  | false => exact step_no (hp ▸ Hc x hx)
theorem lc_pm (xs : List α) (e1 e2 f : α → PyData) (hi : it ρ = some (.ok (xs.map fun x => .tuple [e1 x, e2 x]) ρ)) (hv : v < ρ.length) (hu : u < ρ.length) (hl : xs.length ≤ 1000000)
    (H : ∀ x ∈ xs, e (((wipeE ρ [v, u]).set v (some (.dat (e1 x)))).set u (some (.dat (e2 x)))) = some (.ok (.dat (f x)) (((wipeE ρ [v, u]).set v (some (.dat (e1 x)))).set u (some (.dat (e2 x)))))) : cLc [v, u] it (tPair 0 v u) cYes e ρ = some (.ok (.dat (.list (xs.map f))) ρ) := by
  rw [← filterMap_some]
  exact lc_pair xs e1 e2 _ hi hv hu hl fun x hx => step_yes rfl (H x hx)
theorem lc_pmb (xs : List α) (e1 e2 : α → PyData) (f : α → Bool) (hi : it ρ = some (.ok (xs.map fun x => .tuple [e1 x, e2 x]) ρ)) (hv : v < ρ.length) (hu : u < ρ.length) (hl : xs.length ≤ 1000000)
    (H : ∀ x ∈ xs, e (((wipeE ρ [v, u]).set v (some (.dat (e1 x)))).set u (some (.dat (e2 x)))) = some (.ok (.dat (.bool (f x))) (((wipeE ρ [v, u]).set v (some (.dat (e1 x)))).set u (some (.dat (e2 x)))))) : cLc [v, u] it (tPair 0 v u) cYes e ρ = some (.ok (.dat (.list ((xs.map f).map .bool))) ρ) := by
  rw [List.map_map]
  exact lc_pm xs e1 e2 (fun x => .bool (f x)) hi hv hu hl H
theorem lc_pf (xs : List α) (e1 e2 : α → PyData) (p : α → Bool) (f : α → PyData) (hi : it ρ = some (.ok (xs.map fun x => .tuple [e1 x, e2 x]) ρ)) (hv : v < ρ.length) (hu : u < ρ.length) (hl : xs.length ≤ 1000000)
    (Hc : ∀ x ∈ xs, c (((wipeE ρ [v, u]).set v (some (.dat (e1 x)))).set u (some (.dat (e2 x)))) = some (.ok (p x) (((wipeE ρ [v, u]).set v (some (.dat (e1 x)))).set u (some (.dat (e2 x))))))
    (H : ∀ x ∈ xs, p x = true → e (((wipeE ρ [v, u]).set v (some (.dat (e1 x)))).set u (some (.dat (e2 x)))) = some (.ok (.dat (f x)) (((wipeE ρ [v, u]).set v (some (.dat (e1 x)))).set u (some (.dat (e2 x)))))) : cLc [v, u] it (tPair 0 v u) c e ρ = some (.ok (.dat (.list ((xs.filter p).map f))) ρ) := by
  rw [← filterMap_if]
  refine lc_pair xs e1 e2 _ hi hv hu hl fun x hx => ?_
  cases hp : p x with
  | true => exact step_yes (hp ▸ Hc x hx) (H x hx hp)
  | false => exact step_no (hp ▸ Hc x hx)
end
theorem it_T {f : Ev} {ρ : Env} {ds : List PyData} (h : f ρ = some (.ok (.dat (.tuple ds)) ρ)) : iSeq f ρ = some (.ok ds ρ) := by simp [iSeq, h, items]
theorem it_L {f : Ev} {ρ : Env} {ds : List PyData} (h : f ρ = some (.ok (.dat (.list ds)) ρ)) : iSeq f ρ = some (.ok ds ρ) := by simp [iSeq, h, items]
theorem rng_of {n : Nat} {ρ : Env} (h : inR (n : Int) = true) : rngOf [.dat (.int (n : Int))] ρ = some (.ok ((List.range n).map fun i : Nat => .int (i : Int)) ρ) := by
  unfold rngOf
  simp only [h, if_true, Int.toNat_natCast, rng_enc]
theorem inR_small {n : Nat} (h : n < 1000) : inR (n : Int) = true := by
  unfold inR
  rw [decide_eq_true_eq]
  omega
theorem a1_ok {f : Ev} {ρ : Env} {d : PyData} (h : f ρ = some (.ok (.dat d) ρ)) : aCons f aNil ρ = some (.ok [.dat d] ρ) := by simp [aCons, aNil, h]
theorem it_rng {f : Ev} {ρ : Env} {n : Nat} (h : f ρ = some (.ok (.dat (.int (n : Int))) ρ)) (hn : n < 1000) : iRng (aCons f aNil) ρ = some (.ok ((List.range n).map fun i : Nat => .int (i : Int)) ρ) := by
  unfold iRng
  rw [a1_ok h, bnd_ok]
  exact rng_of (inR_small hn)
theorem depthAll_iz (l : List Nat) : PyData.depthAll (iz l) = 0 := by
  have := PySem.W.depth_ints (l.map fun i : Nat => (i : Int))
  rw [List.map_map] at this
  exact this
theorem eqv_int (i j : Int) : PyData.eqv (.int i) (.int j) = (i == j) := by simp [PyData.eqv]
theorem any_iz (l : List Nat) (j : Nat) : ((iz l).any fun z => PyData.eqv z (.int (j : Int))) = l.contains j := by
  induction l with
  | nil => rfl
  | cons x l ih =>
    have e : iz (x :: l) = .int (x : Int) :: iz l := rfl
    rw [e, List.any_cons, ih, eqv_int, List.contains_cons]
    congr 1
    rw [Bool.eq_iff_iff]
    simp only [beq_iff_eq]
    omega
theorem e_inL (l : List Nat) (j : Nat) : oIn (.dat (.int (j : Int))) (.dat (nl l)) = some (.bool (l.contains j)) := by
  simp [oIn, orO, oInS, dOf, nl, dptA, depthAll_iz, any_iz]
theorem e_inT (l : List Nat) (j : Nat) : oIn (.dat (.int (j : Int))) (.dat (.tuple (iz l))) = some (.bool (l.contains j)) := by
  simp [oIn, orO, oInS, dOf, nl, dptA, depthAll_iz, any_iz]
theorem e_ninL (l : List Nat) (j : Nat) : oNotIn (.dat (.int (j : Int))) (.dat (nl l)) = some (.bool (!l.contains j)) := by
  simp [oNotIn, orO, oInS, dOf, nl, dptA, depthAll_iz, any_iz]
theorem e_ninT (l : List Nat) (j : Nat) : oNotIn (.dat (.int (j : Int))) (.dat (.tuple (iz l))) = some (.bool (!l.contains j)) := by
  simp [oNotIn, orO, oInS, dOf, nl, dptA, depthAll_iz, any_iz]
end PP

end
section
set_option maxHeartbeats 1000000
set_option Elab.async false
set_option linter.all false
set_option maxRecDepth 100000
/-! PQd: comprehensions with two clauses, loops that gather. -/
namespace PP
open PySem PySem.Spec PyProof.Rows L2

theorem lc2M_map {α : Type} {vs vs1 : List Nat} {t t1 : Tgt} {it1 : EvI} {c1 : EvB} {e : Ev} {ρ : Env} (enc : α → PyData) (ys : α → List PyData) (ρ2 : α → Env) (ds1 : α → List PyData) : ∀ (xs : List α), (∀ x ∈ xs, t (enc x) (wipeE ρ vs) = some (ρ2 x) ∧ it1 (ρ2 x) = some (.ok (ds1 x) (ρ2 x)) ∧ lcM vs1 t1 c1 e (ds1 x) (ρ2 x) = some (ys x, ρ2 x) ∧ rest ρ (ρ2 x) vs = ρ) → lc2M vs vs1 t cYes it1 t1 c1 e (xs.map enc) ρ = some (xs.flatMap ys, ρ)
  | [], _ => rfl
  | x :: xs, H => by
    obtain ⟨h1, h2, h3, h4⟩ := H x List.mem_cons_self
    have ih := lc2M_map (t := t) (it1 := it1) (t1 := t1) (c1 := c1) (e := e) (vs := vs) (vs1 := vs1) enc ys ρ2 ds1 xs (fun y hy => H y (List.mem_cons_of_mem _ hy))
    have hy : cYes (ρ2 x) = some (.ok true (ρ2 x)) := rfl
    rw [List.map_cons]
    unfold lc2M
    rw [h1]
    simp only [hy, h2, h3, h4, ih, List.flatMap_cons]
/-- all that a comprehension with two clauses of names yields: Bools -/
theorem lc2_b {α β : Type} {v u : Nat} {it it1 : EvI} {e : Ev} {ρ : Env} (xs : List α) (enc : α → PyData) (ys : α → List β) (enc2 : β → PyData) (f : α → β → Bool) (hi : it ρ = some (.ok (xs.map enc) ρ))
    (hr : ∀ x ∈ xs, rest ρ ((wipeE ρ [v, u]).set v (some (.dat (enc x)))) [v, u] = ρ) (hu : u < ρ.length)
    (h1 : ∀ x ∈ xs, it1 ((wipeE ρ [v, u]).set v (some (.dat (enc x)))) = some (.ok ((ys x).map enc2) ((wipeE ρ [v, u]).set v (some (.dat (enc x))))))
    (hl : (xs.flatMap ys).length ≤ 1000000)
    (H : ∀ x ∈ xs, ∀ y ∈ ys x, e ((wipeE ((wipeE ρ [v, u]).set v (some (.dat (enc x)))) [u]).set u (some (.dat (enc2 y)))) = some (.ok (.dat (.bool (f x y))) ((wipeE ((wipeE ρ [v, u]).set v (some (.dat (enc x)))) [u]).set u (some (.dat (enc2 y)))))) :
    cLc2 [v, u] [u] it (tName 0 v) cYes it1 (tName 0 u) cYes e ρ = some (.ok (.dat (.list ((xs.flatMap fun x => (ys x).map (f x)).map .bool))) ρ) := by
  unfold cLc2
  rw [hi, bnd_ok, lc2M_map enc (fun x => (ys x).filterMap fun y => some (.bool (f x y))) (fun x => (wipeE ρ [v, u]).set v (some (.dat (enc x)))) (fun x => (ys x).map enc2) xs fun x hx => ⟨by simp [tName, setV, setOk], h1 x hx, ?_, hr x hx⟩]
  · have e1 : (xs.flatMap fun x => (ys x).filterMap fun y => some (PyData.bool (f x y))) = (xs.flatMap fun x => (ys x).map (f x)).map .bool := by
      rw [List.map_flatMap]
      congr 1
      funext x
      rw [filterMap_some, List.map_map]
      rfl
    rw [e1]
    have hlen : ((xs.flatMap fun x => (ys x).map (f x)).map PyData.bool).length ≤ 1000000 := by
      rw [List.length_map]
      have : (xs.flatMap fun x => (ys x).map (f x)).length = (xs.flatMap ys).length := by
        simp [List.length_flatMap]
      omega
    simp only [finLc, okLen, hlen, decide_true, if_true]
  · refine lcM_map enc2 _ (fun y => ((wipeE ((wipeE ρ [v, u]).set v (some (.dat (enc x)))) [u]).set u (some (.dat (enc2 y))))) (ys x) fun y hy => ⟨by simp [tName, setV, setOk], step_yes rfl (H x hx y hy), rest_self (by simp [wipeE]; exact hu)⟩
/-- a loop that gathers -/
theorem forL_inv {α β γ : Type} {t : Tgt} {body : Ex} (enc : α → PyData) (E : β → γ → Env) (stp : β → α → β) (Inv : β → Prop) : ∀ (xs : List α), (∀ x ∈ xs, ∀ s o, Inv s → Inv (stp s x) ∧ ∃ ρ2, t (enc x) (E s o) = some ρ2 ∧ ∃ o', body ρ2 = some (.ok .nx (E (stp s x) o'))) → ∀ s o, Inv s → Inv (xs.foldl stp s) ∧ ∃ o', forL t body (xs.map enc) (E s o) = some (.ok .nx (E (xs.foldl stp s) o'))
  | [], _, s, o, h => ⟨h, o, rfl⟩
  | x :: xs, H, s, o, h => by
    obtain ⟨h1, ρ2, h2, o1, h3⟩ := H x List.mem_cons_self s o h
    obtain ⟨h4, o', h5⟩ := forL_inv enc E stp Inv xs (fun y hy => H y (List.mem_cons_of_mem _ hy)) (stp s x) o1 h1
    refine ⟨h4, o', ?_⟩
    rw [List.map_cons]
    unfold forL
    rw [h2]
    simp only
    rw [h3, bnd_ok]
    exact h5
end PP

end
section
set_option maxHeartbeats 1000000
set_option Elab.async false
set_option linter.all false
set_option maxRecDepth 100000
/-! PQe: sorted sets of small numbers. -/
namespace PP
open PySem PySem.Spec PyProof.Rows L2
open PySem.W (dataLt dataLe alike alikeAll)

def srt (l : List Nat) : List Nat := l.mergeSort fun a b => decide (a ≤ b)
/-- the members below n, in order -/
def setN (n : Nat) (l : List Nat) : List Nat := (List.range n).filter fun i => l.contains i
theorem srt_mem {l : List Nat} {x : Nat} : x ∈ srt l ↔ x ∈ l := (List.mergeSort_perm l _).mem_iff
theorem setN_mem {n : Nat} {l : List Nat} {x : Nat} : x ∈ setN n l ↔ x < n ∧ x ∈ l := by simp [setN]
theorem srt_set {n : Nat} {l : List Nat} (nd : l.Nodup) (h : ∀ x ∈ l, x < n) : srt l = setN n l := by
  have tr : ∀ a b c : Nat, decide (a ≤ b) = true → decide (b ≤ c) = true → decide (a ≤ c) = true := fun a b c h1 h2 => by
    have := of_decide_eq_true h1; have := of_decide_eq_true h2
    exact decide_eq_true (by omega)
  have to : ∀ a b : Nat, (decide (a ≤ b) || decide (b ≤ a)) = true := fun a b => by
    rw [Bool.or_eq_true, decide_eq_true_eq, decide_eq_true_eq]
    omega
  have nd2 : (setN n l).Nodup := List.nodup_range.sublist List.filter_sublist
  have p : (srt l).Perm (setN n l) := (List.mergeSort_perm l _).trans ((List.perm_ext_iff_of_nodup nd nd2).mpr fun x => by rw [setN_mem]; exact ⟨fun hx => ⟨h x hx, hx⟩, fun hx => hx.2⟩)
  refine List.Perm.eq_of_pairwise (le := fun a b : Nat => a ≤ b) (fun a b _ _ h1 h2 => by omega) ?_ ?_ p
  · refine List.Pairwise.imp (fun {a b} hab => of_decide_eq_true hab) (List.pairwise_mergeSort tr to l)
  · exact List.Pairwise.imp (fun {a b} hab => Nat.le_of_lt hab) (List.Pairwise.filter _ List.pairwise_lt_range)
theorem dd_mem {l : List Nat} {x : Nat} : x ∈ dd l ↔ x ∈ l := mem_dd
theorem dd_nodup {α : Type} [DecidableEq α] : ∀ l : List α, (dd l).Nodup
  | [] => List.nodup_nil
  | x :: l => by
    unfold dd
    split
    · exact dd_nodup l
    · rename_i h
      exact List.nodup_cons.mpr ⟨h, dd_nodup l⟩
theorem setN_dd {n : Nat} {l : List Nat} : setN n (dd l) = setN n l := by
  unfold setN
  congr 1
  funext i
  rw [Bool.eq_iff_iff, List.contains_iff_mem, List.contains_iff_mem]
  exact dd_mem
theorem dd_map {α β : Type} [DecidableEq α] [DecidableEq β] {f : α → β} (hf : ∀ a b, f a = f b → a = b) : ∀ l : List α, dd (l.map f) = (dd l).map f
  | [] => rfl
  | x :: l => by
    have ih := dd_map hf l
    rw [List.map_cons]
    unfold dd
    rw [ih]
    have e : (f x ∈ (dd l).map f) ↔ x ∈ dd l := by
      rw [List.mem_map]
      exact ⟨fun ⟨y, hy, e⟩ => hf _ _ e ▸ hy, fun h => ⟨x, h, rfl⟩⟩
    by_cases h : x ∈ dd l
    · rw [if_pos h, if_pos (e.mpr h)]
    · rw [if_neg h, if_neg (fun z => h (e.mp z)), List.map_cons]
theorem iz_eq (l : List Nat) : iz l = (l.map fun i : Nat => (i : Int)).map .int := by
  rw [List.map_map]
  rfl
theorem intsOf_iz : ∀ l : List Nat, intsOf (iz l) = some (l.map fun i : Nat => (i : Int))
  | [] => rfl
  | x :: l => by
    have ih := intsOf_iz l
    have e : iz (x :: l) = .int (x : Int) :: iz l := rfl
    rw [e]
    simp [intsOf, ih]
theorem setD_iz {l : List Nat} (h : l.length ≤ 4000) : setD (iz l) = some (iz (dd l)) := by
  unfold setD
  rw [intsOf_iz]
  simp only [List.length_map, h, decide_true, if_true]
  rw [dd_map (fun a b e => by omega), ← iz_eq]
theorem dataLe_iz (a b : Nat) : dataLe false (fun d : PyData => d) (.int (a : Int)) (.int (b : Int)) = decide (a ≤ b) := by
  rw [PySem.W.dataLe_eq]
  simp only [cond_false, PySem.W.dataLt_int]
  rw [Bool.eq_iff_iff, decide_eq_true_eq, Bool.not_eq_true', decide_eq_false_iff_not]
  omega
theorem sortD_iz (l : List Nat) : sortD (iz l) = iz (srt l) := by
  unfold sortD srt iz
  exact (List.map_mergeSort fun a _ b _ => (dataLe_iz a b).symm).symm
theorem canSort_iz {l : List Nat} (h : l.length ≤ 1000000) : canSort (iz l) = true := by
  unfold canSort
  have hm : ∀ d ∈ iz l, ∃ i : Int, d = .int i := fun d hd => by
    obtain ⟨i, _, rfl⟩ := List.mem_map.mp hd
    exact ⟨_, rfl⟩
  simp only [Bool.and_eq_true, Bool.or_eq_true, List.all_eq_true]
  refine ⟨⟨⟨fun d hd e he => ?_, .inl fun d hd => ?_⟩, fun d hd => ?_⟩, ?_⟩
  · obtain ⟨i, rfl⟩ := hm d hd
    obtain ⟨j, rfl⟩ := hm e he
    rfl
  · obtain ⟨i, rfl⟩ := hm d hd
    rfl
  · obtain ⟨i, rfl⟩ := hm d hd
    rfl
  · have e : (iz l).length = l.length := List.length_map _
    rw [e]
    exact decide_eq_true h
theorem dd_length_le {α : Type} [DecidableEq α] : ∀ l : List α, (dd l).length ≤ l.length
  | [] => Nat.le_refl _
  | x :: l => by
    have := dd_length_le l
    unfold dd
    split
    · rw [List.length_cons]; omega
    · rw [List.length_cons, List.length_cons]; omega
/-- sorted(set(xs)) -/
theorem ss_iz {own : Bool} {f : Ev} {ρ : Env} {l : List Nat} {n : Nat} (h : f ρ = some (.ok (.dat (nl l)) ρ)) (hl : l.length ≤ 4000) (hn : ∀ x ∈ l, x < n) : cSS own f ρ = some (.ok (asL own (iz (setN n l))) ρ) := by
  have h1 : srt (dd l) = setN n l := by
    rw [srt_set (n := n) (dd_nodup l) fun x hx => hn x (dd_mem.mp hx)]
    exact setN_dd
  have h2 : canSort (iz (dd l)) = true := canSort_iz (by have := dd_length_le l; omega)
  unfold cSS
  rw [h, bnd_ok]
  unfold finSS
  simp only [res_dat, nl, lOf, setD_iz hl, h2, if_true, sortD_iz, h1]
end PP

end
section
set_option maxHeartbeats 1000000
set_option Elab.async false
set_option linter.all false
set_option maxRecDepth 100000
/-! PQf: data that equal themselves. -/
namespace PP
open PySem PySem.Spec PyProof.Rows L2

/-- equals itself, and is not deep -/
def Tame (n : Nat) (d : PyData) : Prop := PyData.eqv d d = true ∧ d.depth ≤ n
theorem eqvAll_self : ∀ xs : List PyData, (∀ x ∈ xs, PyData.eqv x x = true) → PyData.eqvAll xs xs = true
  | [], _ => rfl
  | x :: xs, h => by
    rw [PyData.eqvAll, h x List.mem_cons_self, eqvAll_self xs fun y hy => h y (List.mem_cons_of_mem _ hy)]
    rfl
theorem depthAll_le {n : Nat} : ∀ xs : List PyData, (∀ x ∈ xs, x.depth ≤ n) → PyData.depthAll xs ≤ n
  | [], _ => Nat.zero_le _
  | x :: xs, h => by
    have h1 := h x List.mem_cons_self
    have h2 := depthAll_le xs fun y hy => h y (List.mem_cons_of_mem _ hy)
    rw [PyData.depthAll]
    omega
theorem tm_int (n : Nat) (i : Int) : Tame n (.int i) := ⟨by simp [PyData.eqv], by simp [PyData.depth]⟩
theorem tm_bool (n : Nat) (i : Bool) : Tame n (.bool i) := ⟨by simp [PyData.eqv], by simp [PyData.depth]⟩
theorem tm_str (n : Nat) (i : Str) : Tame n (.str i) := ⟨by simp [PyData.eqv], by simp [PyData.depth]⟩
theorem tm_list {n : Nat} {xs : List PyData} (h : ∀ x ∈ xs, Tame n x) : Tame (n + 1) (.list xs) := ⟨by rw [PyData.eqv]; exact eqvAll_self xs fun x hx => (h x hx).1, by
  have := depthAll_le xs fun x hx => (h x hx).2
  rw [PyData.depth]
  omega⟩
theorem tm_tuple {n : Nat} {xs : List PyData} (h : ∀ x ∈ xs, Tame n x) : Tame (n + 1) (.tuple xs) := ⟨by rw [PyData.eqv]; exact eqvAll_self xs fun x hx => (h x hx).1, by
  have := depthAll_le xs fun x hx => (h x hx).2
  rw [PyData.depth]
  omega⟩
theorem tm_nl (n : Nat) (l : List Nat) : Tame (n + 1) (nl l) := tm_list fun x hx => by
  obtain ⟨i, _, rfl⟩ := List.mem_map.mp hx
  exact tm_int n _
theorem tm_ints (n : Nat) (l : List Int) : Tame (n + 1) (.tuple (l.map .int)) := tm_tuple fun x hx => by
  obtain ⟨i, _, rfl⟩ := List.mem_map.mp hx
  exact tm_int n _
theorem tm_map {α : Type} {n : Nat} (l : List α) (f : α → PyData) (h : ∀ x ∈ l, Tame n (f x)) : Tame (n + 1) (.list (l.map f)) := tm_list fun x hx => by
  obtain ⟨i, hi, rfl⟩ := List.mem_map.mp hx
  exact h i hi
theorem tm_mapT {α : Type} {n : Nat} (l : List α) (f : α → PyData) (h : ∀ x ∈ l, Tame n (f x)) : Tame (n + 1) (.tuple (l.map f)) := tm_tuple fun x hx => by
  obtain ⟨i, hi, rfl⟩ := List.mem_map.mp hx
  exact h i hi
theorem e_neS {n : Nat} {d : PyData} (t : Tame n d) (hn : n ≤ 100) : oNee (.dat d) (.dat d) = some (.bool false) := by
  rw [e_neD (by have := t.2; omega), t.1]
  rfl
theorem e_eqS {n : Nat} {d : PyData} (t : Tame n d) (hn : n ≤ 100) : oEqq (.dat d) (.dat d) = some (.bool true) := by
  rw [e_eqD (by have := t.2; omega), t.1]
theorem e_catTT {a c : List PyData} (h : a.length + c.length ≤ 1000000) : oAdd (.dat (.tuple a)) (.dat (.tuple c)) = some (.tuple (a ++ c)) := by
  have h1 : oAddI (.dat (.tuple a)) (.dat (.tuple c)) = none := rfl
  simp [oAdd, orO, h1, oCatT, okLen, h]
theorem reps_one' (n : Nat) (d : PyData) : reps n [d] = List.replicate n d := by
  induction n with
  | zero => rfl
  | succ n ih => rw [List.replicate_succ, ← ih]; rfl
theorem e_repL {n : Nat} (h2 : n ≤ 1000) (d : PyData) : oMul (.dat (.list [d])) (.dat (.int (n : Int))) = some (.list (List.replicate n d)) := by
  have a : (0 : Int) ≤ n := by omega
  have c : (n : Int) ≤ 1000 := by omega
  have h0 : oMulI (.dat (.list [d])) (.dat (.int (n : Int))) = none := rfl
  have h1 : oRepT (.dat (.list [d])) (.dat (.int (n : Int))) = none := rfl
  simp [oMul, orO, h0, h1, oRepL, lOf, c, reps_one']
theorem tst2 {f : EvB} {g : Ex} {ρ : Env} (hf : f ρ = some (.ok false ρ)) : sIf f g bNil ρ = some (.ok .nx ρ) := (if_no hf).trans rfl
end PP

end
section
set_option Elab.async false
set_option linter.all false
set_option maxRecDepth 100000
set_option maxHeartbeats 0
/-! printed by gen.py: the defs of k03_whole_kinds_that_end, their functions and derivations. -/
namespace PP.K03
open PySem PySem.Spec PyProof.Rows L2 PP
def top (i : Nat) : Stmt := PySem.Challenge.pw_linesdown_k03_whole_kinds_that_end.main.body.getD i (.Pass ⟨0, 0, 0, 0⟩)
def BL : List String := ["len", "abs", "int", "sum", "all", "any", "tuple", "list", "sorted", "set", "range", "isinstance", "str", "bool", "max", "min"]
def GL : List (String × PyData) := [("MOST_KINDS", (.int (8))), ("MOST_LITTERS", (.int (8))), ("MOST_YOUNG", (.int (6))), ("MOST_START", (.int (20))), ("LETTERS", (.str (Str.ofString "abcdefghijklmnopqrstuvwxyz")))]
def KT : List (String × List PyData) := [("WORDS", [(.str (Str.ofString "kind")), (.str (Str.ofString "start")), (.str (Str.ofString "nothing"))])]
def FNS : List (String × Nat) := [("divisor", 2), ("part", 2), ("is_part", 1), ("is_chance", 1), ("plus", 2), ("total", 1), ("is_name", 1), ("is_whole", 3), ("is_lot", 3), ("are_litters", 2), ("is_book", 1), ("one_of", 2), ("nothing", 1), ("together", 2), ("has", 2), ("children", 2), ("reached", 2), ("started", 1), ("with_start", 2), ("sorted_litters", 1), ("can_end", 1), ("ends_by", 3), ("endless", 1), ("accepts_endless", 3), ("lots_of", 1), ("is_circling", 2), ("is_plain", 2), ("_law_state", 1), ("_law_take", 2), ("_law_fr", 2), ("_law_add", 2), ("_law_lot", 3), ("_law_litters", 3), ("_law_ordered", 2), ("_law_book", 2), ("_law_comes", 2), ("_law_lots", 1), ("_law_turns_back", 2), ("_law_odd", 2), ("_law_rows", 2), ("_law_ends", 2), ("_law_things", 3), ("law", 1)]
def gam (Φ : Phi) (k : Nat) : Gam := { Φ := Φ, k := k, bl := BL, gl := GL, kt := KT, fns := FNS, xr := fun _ _ _ _ => False }
abbrev st_divisor : Stmt := top 1
def N_divisor : List Str := ["one", "other"]
theorem sc_divisor : FnScope N_divisor ["one", "other"] (defScope st_divisor) := ⟨rfl, rfl, rfl, by decide +kernel, rfl, by decide +kernel, by decide +kernel⟩
noncomputable def b_divisor (Φ : Phi) : Ex := (bSeq (sPar 2 0 1 (cB bAbs (aCons (cVar 0) aNil)) (cB bAbs (aCons (cVar 1) aNil))) (bSeq (sWhile 1000000 (cTst (cBin oNee (cVar 1) (cC (.int (0))))) (sPar 2 0 1 (cVar 1) (cBin oMod (cVar 0) (cVar 1)))) (sRet (cVar 0))))
theorem s_divisor (Φ : Phi) (k : Nat) : SndB (gam Φ k) N_divisor 2 (defScope st_divisor) (defBody st_divisor) (b_divisor Φ) := by
  unfold b_divisor
  exact (sB_cons (sS_par (i := 0) (j := 1) rfl rfl (by decide) (by decide +kernel) (by decide +kernel) (sE_blt (x := "abs") cb_abs (List.mem_of_getElem? (i := 1) rfl) (by decide +kernel) boot_abs (sA_cons (sE_var (i := 0) rfl (by decide +kernel)) sA_nil)) (sE_blt (x := "abs") cb_abs (List.mem_of_getElem? (i := 1) rfl) (by decide +kernel) boot_abs (sA_cons (sE_var (i := 1) rfl (by decide +kernel)) sA_nil)) (swap_by (by kernel_rfl))) (sB_cons (sS_while (fuel := 1000000) (sT_cmp s_nee (sE_var (i := 1) rfl (by decide +kernel)) sE_int (by rfl)) (sB_one (sS_par (i := 0) (j := 1) rfl rfl (by decide) (by decide +kernel) (by decide +kernel) (sE_var (i := 1) rfl (by decide +kernel)) (sE_bin s_mod (sE_var (i := 0) rfl (by decide +kernel)) (sE_var (i := 1) rfl (by decide +kernel))) (swap_by (by kernel_rfl))))) (sB_one (sS_ret (sE_var (i := 0) rfl (by decide +kernel))))))
abbrev st_part : Stmt := top 2
def N_part : List Str := ["above", "below", "common"]
theorem sc_part : FnScope N_part ["above", "below"] (defScope st_part) := ⟨rfl, rfl, rfl, by decide +kernel, rfl, by decide +kernel, by decide +kernel⟩
noncomputable def b_part (Φ : Phi) : Ex := (bSeq (sIf (cTst (cBin oLt (cVar 1) (cC (.int (0))))) (sPar 2 0 1 (cBin oSub (cC (.int (0))) (cVar 0)) (cBin oSub (cC (.int (0))) (cVar 1))) bNil) (bSeq (sSet 2 2 (cCall Φ "divisor" (aCons (cVar 0) (aCons (cVar 1) aNil)))) (sRet (cTup (aCons (cBin oFdv (cVar 0) (cVar 2)) (aCons (cBin oFdv (cVar 1) (cVar 2)) aNil))))))
theorem s_part (Φ : Phi) (k : Nat) : SndB (gam Φ k) N_part 2 (defScope st_part) (defBody st_part) (b_part Φ) := by
  unfold b_part
  exact (sB_cons (sS_if (sT_cmp s_lt (sE_var (i := 1) rfl (by decide +kernel)) sE_int (by rfl)) (sB_one (sS_par (i := 0) (j := 1) rfl rfl (by decide) (by decide +kernel) (by decide +kernel) (sE_bin s_sub sE_int (sE_var (i := 0) rfl (by decide +kernel))) (sE_bin s_sub sE_int (sE_var (i := 1) rfl (by decide +kernel))) (swap_by (by kernel_rfl)))) sB_nil) (sB_cons (sS_set (i := 2) rfl (by decide +kernel) (sE_call (f := "divisor") (List.mem_of_getElem? (i := 0) rfl) (by decide +kernel) (sA_cons (sE_var (i := 0) rfl (by decide +kernel)) (sA_cons (sE_var (i := 1) rfl (by decide +kernel)) sA_nil)))) (sB_one (sS_ret (sE_tup (sA_cons (sE_bin s_fdv (sE_var (i := 0) rfl (by decide +kernel)) (sE_var (i := 2) rfl (by decide +kernel))) (sA_cons (sE_bin s_fdv (sE_var (i := 1) rfl (by decide +kernel)) (sE_var (i := 2) rfl (by decide +kernel))) sA_nil)))))))
abbrev st_is_part : Stmt := top 3
def N_is_part : List Str := ["value", "one"]
theorem sc_is_part : FnScope N_is_part ["value"] (defScope st_is_part) := ⟨rfl, rfl, rfl, by decide +kernel, rfl, by decide +kernel, by decide +kernel⟩
noncomputable def b_is_part (Φ : Phi) : Ex := (bSeq (sIf (cOrB (cNotB (cTst (cIs "tuple" (cVar 0)))) (cTst (cBin oNee (cB bLen (aCons (cVar 0) aNil)) (cC (.int (2)))))) (sRet (cC (.bool false))) bNil) (bSeq (sIf (cNotB (cTst (cB (bAll fun bs => bs.all id) (aCons (cLc [1] (iSeq (cVar 0)) (tName 0 1) cYes (cAnd (cIs "int" (cVar 1)) (cNot (cIs "bool" (cVar 1))))) aNil)))) (sRet (cC (.bool false))) bNil) (sRet (cAnd (cBin oGt (cBin oIx (cVar 0) (cC (.int (1)))) (cC (.int (0)))) (cBin oEqq (cCall Φ "divisor" (aCons (cBin oIx (cVar 0) (cC (.int (0)))) (aCons (cBin oIx (cVar 0) (cC (.int (1)))) aNil))) (cC (.int (1))))))))
theorem s_is_part (Φ : Phi) (k : Nat) : SndB (gam Φ k) N_is_part 1 (defScope st_is_part) (defBody st_is_part) (b_is_part Φ) := by
  unfold b_is_part
  exact (sB_cons (sS_if (SndW.t (sW_or (sT_not (sT_val (sE_is (T := "tuple") (List.mem_of_getElem? (i := 11) rfl) (List.mem_of_getElem? (i := 6) rfl) (by decide +kernel) (by decide +kernel) boot_tuple (sE_var (i := 0) rfl (by decide +kernel))))) (sW_or1 (sT_cmp s_nee (sE_blt (x := "len") cb_len (List.mem_of_getElem? (i := 0) rfl) (by decide +kernel) boot_len (sA_cons (sE_var (i := 0) rfl (by decide +kernel)) sA_nil)) sE_int (by rfl))))) (sB_one (sS_ret sE_bl)) sB_nil) (sB_cons (sS_if (sT_not (sT_val (sE_blt (x := "all") cb_all (List.mem_of_getElem? (i := 4) rfl) (by decide +kernel) boot_all (sA_cons (sE_lc (own := [("one", 1)]) (sI_seq (sE_var (i := 0) rfl (by decide +kernel))) (by decide +kernel) rfl (sG_name (i := 1) rfl (by decide +kernel)) (by decide) sF_nil (sE_and (sE_is (T := "int") (List.mem_of_getElem? (i := 11) rfl) (List.mem_of_getElem? (i := 2) rfl) (by decide +kernel) (by decide +kernel) boot_int (sE_var (i := 1) rfl (by decide +kernel))) (sE_one (sE_not (sE_is (T := "bool") (List.mem_of_getElem? (i := 11) rfl) (List.mem_of_getElem? (i := 13) rfl) (by decide +kernel) (by decide +kernel) boot_bool (sE_var (i := 1) rfl (by decide +kernel))))))) sA_nil)))) (sB_one (sS_ret sE_bl)) sB_nil) (sB_one (sS_ret (sE_and (sE_cmp s_gt (sE_ix ix_any (sE_var (i := 0) rfl (by decide +kernel)) sE_int) sE_int (by rfl)) (sE_one (sE_cmp s_eqq (sE_call (f := "divisor") (List.mem_of_getElem? (i := 0) rfl) (by decide +kernel) (sA_cons (sE_ix ix_any (sE_var (i := 0) rfl (by decide +kernel)) sE_int) (sA_cons (sE_ix ix_any (sE_var (i := 0) rfl (by decide +kernel)) sE_int) sA_nil))) sE_int (by rfl))))))))
abbrev st_is_chance : Stmt := top 4
def N_is_chance : List Str := ["value"]
theorem sc_is_chance : FnScope N_is_chance ["value"] (defScope st_is_chance) := ⟨rfl, rfl, rfl, by decide +kernel, rfl, by decide +kernel, by decide +kernel⟩
noncomputable def b_is_chance (Φ : Phi) : Ex := (sRet (cAnd (cCall Φ "is_part" (aCons (cVar 0) aNil)) (cChain oLe oLe (cC (.int (0))) (cBin oIx (cVar 0) (cC (.int (0)))) (cBin oIx (cVar 0) (cC (.int (1)))))))
theorem s_is_chance (Φ : Phi) (k : Nat) : SndB (gam Φ k) N_is_chance 1 (defScope st_is_chance) (defBody st_is_chance) (b_is_chance Φ) := by
  unfold b_is_chance
  exact (sB_one (sS_ret (sE_and (sE_call (f := "is_part") (List.mem_of_getElem? (i := 2) rfl) (by decide +kernel) (sA_cons (sE_var (i := 0) rfl (by decide +kernel)) sA_nil)) (sE_one (sE_chain s_le s_le sE_int (sE_ix ix_any (sE_var (i := 0) rfl (by decide +kernel)) sE_int) (sE_ix ix_any (sE_var (i := 0) rfl (by decide +kernel)) sE_int))))))
abbrev st_plus : Stmt := top 5
def N_plus : List Str := ["one", "other"]
theorem sc_plus : FnScope N_plus ["one", "other"] (defScope st_plus) := ⟨rfl, rfl, rfl, by decide +kernel, rfl, by decide +kernel, by decide +kernel⟩
noncomputable def b_plus (Φ : Phi) : Ex := (sRet (cCall Φ "part" (aCons (cBin oAdd (cBin oMul (cBin oIx (cVar 0) (cC (.int (0)))) (cBin oIx (cVar 1) (cC (.int (1))))) (cBin oMul (cBin oIx (cVar 1) (cC (.int (0)))) (cBin oIx (cVar 0) (cC (.int (1)))))) (aCons (cBin oMul (cBin oIx (cVar 0) (cC (.int (1)))) (cBin oIx (cVar 1) (cC (.int (1))))) aNil))))
theorem s_plus (Φ : Phi) (k : Nat) : SndB (gam Φ k) N_plus 2 (defScope st_plus) (defBody st_plus) (b_plus Φ) := by
  unfold b_plus
  exact (sB_one (sS_ret (sE_call (f := "part") (List.mem_of_getElem? (i := 1) rfl) (by decide +kernel) (sA_cons (sE_bin s_add (sE_bin s_mul (sE_ix ix_any (sE_var (i := 0) rfl (by decide +kernel)) sE_int) (sE_ix ix_any (sE_var (i := 1) rfl (by decide +kernel)) sE_int)) (sE_bin s_mul (sE_ix ix_any (sE_var (i := 1) rfl (by decide +kernel)) sE_int) (sE_ix ix_any (sE_var (i := 0) rfl (by decide +kernel)) sE_int))) (sA_cons (sE_bin s_mul (sE_ix ix_any (sE_var (i := 0) rfl (by decide +kernel)) sE_int) (sE_ix ix_any (sE_var (i := 1) rfl (by decide +kernel)) sE_int)) sA_nil)))))
abbrev st_total : Stmt := top 6
def N_total : List Str := ["row", "found", "one"]
theorem sc_total : FnScope N_total ["row"] (defScope st_total) := ⟨rfl, rfl, rfl, by decide +kernel, rfl, by decide +kernel, by decide +kernel⟩
noncomputable def b_total (Φ : Phi) : Ex := (bSeq (sSet 1 1 (cTup (aCons (cC (.int (0))) (aCons (cC (.int (1))) aNil)))) (bSeq (sFor (iSeq (cVar 0)) (tName 1 2) (sSet 1 1 (cCall Φ "plus" (aCons (cVar 1) (aCons (cVar 2) aNil))))) (sRet (cVar 1))))
theorem s_total (Φ : Phi) (k : Nat) : SndB (gam Φ k) N_total 1 (defScope st_total) (defBody st_total) (b_total Φ) := by
  unfold b_total
  exact (sB_cons (sS_set (i := 1) rfl (by decide +kernel) (sE_tup (sA_cons sE_int (sA_cons sE_int sA_nil)))) (sB_cons (sS_for (sI_seq (sE_var (i := 0) rfl (by decide +kernel))) (sG_name (i := 2) rfl (by decide +kernel)) (sB_one (sS_set (i := 1) rfl (by decide +kernel) (sE_call (f := "plus") (List.mem_of_getElem? (i := 4) rfl) (by decide +kernel) (sA_cons (sE_var (i := 1) rfl (by decide +kernel)) (sA_cons (sE_var (i := 2) rfl (by decide +kernel)) sA_nil)))))) (sB_one (sS_ret (sE_var (i := 1) rfl (by decide +kernel))))))
abbrev st_is_name : Stmt := top 14
def N_is_name : List Str := ["value", "sign"]
theorem sc_is_name : FnScope N_is_name ["value"] (defScope st_is_name) := ⟨rfl, rfl, rfl, by decide +kernel, rfl, by decide +kernel, by decide +kernel⟩
noncomputable def b_is_name (Φ : Phi) : Ex := (bSeq (sIf (cOrB (cNotB (cTst (cIs "str" (cVar 0)))) (cOrB (cNotB (cTst (cChain oLe oLe (cC (.int (1))) (cB bLen (aCons (cVar 0) aNil)) (cC (.int (8)))))) (cTst (cInK false [(.str (Str.ofString "kind")), (.str (Str.ofString "start")), (.str (Str.ofString "nothing"))] (cVar 0))))) (sRet (cC (.bool false))) bNil) (sRet (cB (bAll fun bs => bs.all id) (aCons (cLc [1] (iSeq (cVar 0)) (tName 0 1) cYes (cBin oIn (cVar 1) (cC (.str (Str.ofString "abcdefghijklmnopqrstuvwxyz"))))) aNil))))
theorem s_is_name (Φ : Phi) (k : Nat) : SndB (gam Φ k) N_is_name 1 (defScope st_is_name) (defBody st_is_name) (b_is_name Φ) := by
  unfold b_is_name
  exact (sB_cons (sS_if (SndW.t (sW_or (sT_not (sT_val (sE_is (T := "str") (List.mem_of_getElem? (i := 11) rfl) (List.mem_of_getElem? (i := 12) rfl) (by decide +kernel) (by decide +kernel) boot_str (sE_var (i := 0) rfl (by decide +kernel))))) (sW_or (sT_not (sT_chain s_le s_le sE_int (sE_blt (x := "len") cb_len (List.mem_of_getElem? (i := 0) rfl) (by decide +kernel) boot_len (sA_cons (sE_var (i := 0) rfl (by decide +kernel)) sA_nil)) sE_int)) (sW_or1 (sT_inK (x := "WORDS") (by simp) (by decide +kernel) (List.mem_of_getElem? (i := 0) rfl) (sE_var (i := 0) rfl (by decide +kernel)) (by rfl)))))) (sB_one (sS_ret sE_bl)) sB_nil) (sB_one (sS_ret (sE_blt (x := "all") cb_all (List.mem_of_getElem? (i := 4) rfl) (by decide +kernel) boot_all (sA_cons (sE_lc (own := [("sign", 1)]) (sI_seq (sE_var (i := 0) rfl (by decide +kernel))) (by decide +kernel) rfl (sG_name (i := 1) rfl (by decide +kernel)) (by decide) sF_nil (sE_cmp s_in (sE_var (i := 1) rfl (by decide +kernel)) (sE_glob (x := "LETTERS") (by decide +kernel) (List.mem_of_getElem? (i := 4) rfl)) (by rfl))) sA_nil)))))
abbrev st_is_whole : Stmt := top 15
def N_is_whole : List Str := ["value", "low", "high"]
theorem sc_is_whole : FnScope N_is_whole ["value", "low", "high"] (defScope st_is_whole) := ⟨rfl, rfl, rfl, by decide +kernel, rfl, by decide +kernel, by decide +kernel⟩
noncomputable def b_is_whole (Φ : Phi) : Ex := (sRet (cAnd (cIs "int" (cVar 0)) (cAnd (cNot (cIs "bool" (cVar 0))) (cChain oLe oLe (cVar 1) (cVar 0) (cVar 2)))))
theorem s_is_whole (Φ : Phi) (k : Nat) : SndB (gam Φ k) N_is_whole 3 (defScope st_is_whole) (defBody st_is_whole) (b_is_whole Φ) := by
  unfold b_is_whole
  exact (sB_one (sS_ret (sE_and (sE_is (T := "int") (List.mem_of_getElem? (i := 11) rfl) (List.mem_of_getElem? (i := 2) rfl) (by decide +kernel) (by decide +kernel) boot_int (sE_var (i := 0) rfl (by decide +kernel))) (sE_and (sE_not (sE_is (T := "bool") (List.mem_of_getElem? (i := 11) rfl) (List.mem_of_getElem? (i := 13) rfl) (by decide +kernel) (by decide +kernel) boot_bool (sE_var (i := 0) rfl (by decide +kernel)))) (sE_one (sE_chain s_le s_le (sE_var (i := 1) rfl (by decide +kernel)) (sE_var (i := 0) rfl (by decide +kernel)) (sE_var (i := 2) rfl (by decide +kernel))))))))
abbrev st_is_lot : Stmt := top 16
def N_is_lot : List Str := ["value", "many", "most", "one"]
theorem sc_is_lot : FnScope N_is_lot ["value", "many", "most"] (defScope st_is_lot) := ⟨rfl, rfl, rfl, by decide +kernel, rfl, by decide +kernel, by decide +kernel⟩
noncomputable def b_is_lot (Φ : Phi) : Ex := (bSeq (sIf (cOrB (cNotB (cTst (cIs "tuple" (cVar 0)))) (cTst (cBin oNee (cB bLen (aCons (cVar 0) aNil)) (cVar 1)))) (sRet (cC (.bool false))) bNil) (sRet (cAnd (cB (bAll fun bs => bs.all id) (aCons (cLc [3] (iSeq (cVar 0)) (tName 0 3) cYes (cCall Φ "is_whole" (aCons (cVar 3) (aCons (cC (.int (0))) (aCons (cVar 2) aNil))))) aNil)) (cBin oLe (cB bSum (aCons (cVar 0) aNil)) (cVar 2)))))
theorem s_is_lot (Φ : Phi) (k : Nat) : SndB (gam Φ k) N_is_lot 3 (defScope st_is_lot) (defBody st_is_lot) (b_is_lot Φ) := by
  unfold b_is_lot
  exact (sB_cons (sS_if (SndW.t (sW_or (sT_not (sT_val (sE_is (T := "tuple") (List.mem_of_getElem? (i := 11) rfl) (List.mem_of_getElem? (i := 6) rfl) (by decide +kernel) (by decide +kernel) boot_tuple (sE_var (i := 0) rfl (by decide +kernel))))) (sW_or1 (sT_cmp s_nee (sE_blt (x := "len") cb_len (List.mem_of_getElem? (i := 0) rfl) (by decide +kernel) boot_len (sA_cons (sE_var (i := 0) rfl (by decide +kernel)) sA_nil)) (sE_var (i := 1) rfl (by decide +kernel)) (by rfl))))) (sB_one (sS_ret sE_bl)) sB_nil) (sB_one (sS_ret (sE_and (sE_blt (x := "all") cb_all (List.mem_of_getElem? (i := 4) rfl) (by decide +kernel) boot_all (sA_cons (sE_lc (own := [("one", 3)]) (sI_seq (sE_var (i := 0) rfl (by decide +kernel))) (by decide +kernel) rfl (sG_name (i := 3) rfl (by decide +kernel)) (by decide) sF_nil (sE_call (f := "is_whole") (List.mem_of_getElem? (i := 7) rfl) (by decide +kernel) (sA_cons (sE_var (i := 3) rfl (by decide +kernel)) (sA_cons sE_int (sA_cons (sE_var (i := 2) rfl (by decide +kernel)) sA_nil))))) sA_nil)) (sE_one (sE_cmp s_le (sE_blt (x := "sum") cb_sum (List.mem_of_getElem? (i := 3) rfl) (by decide +kernel) boot_sum (sA_cons (sE_var (i := 0) rfl (by decide +kernel)) sA_nil)) (sE_var (i := 2) rfl (by decide +kernel)) (by rfl)))))))
abbrev st_are_litters : Stmt := top 17
def N_are_litters : List Str := ["value", "many", "row", "lots", "k"]
theorem sc_are_litters : FnScope N_are_litters ["value", "many"] (defScope st_are_litters) := ⟨rfl, rfl, rfl, by decide +kernel, rfl, by decide +kernel, by decide +kernel⟩
noncomputable def b_are_litters (Φ : Phi) : Ex := (bSeq (sIf (cOrB (cNotB (cTst (cIs "tuple" (cVar 0)))) (cNotB (cTst (cChain oLe oLe (cC (.int (1))) (cB bLen (aCons (cVar 0) aNil)) (cC (.int (8))))))) (sRet (cC (.bool false))) bNil) (bSeq (sFor (iSeq (cVar 0)) (tName 2 2) (bSeq (sIf (cOrB (cNotB (cTst (cIs "tuple" (cVar 2)))) (cOrB (cTst (cBin oNee (cB bLen (aCons (cVar 2) aNil)) (cC (.int (2))))) (cNotB (cTst (cCall Φ "is_lot" (aCons (cBin oIx (cVar 2) (cC (.int (0)))) (aCons (cVar 1) (aCons (cC (.int (6))) aNil)))))))) (sRet (cC (.bool false))) bNil) (sIf (cOrB (cNotB (cTst (cCall Φ "is_chance" (aCons (cBin oIx (cVar 2) (cC (.int (1)))) aNil)))) (cTst (cBin oEqq (cBin oIx (cBin oIx (cVar 2) (cC (.int (1)))) (cC (.int (0)))) (cC (.int (0)))))) (sRet (cC (.bool false))) bNil))) (bSeq (sSet 2 3 (cLc [2] (iSeq (cVar 0)) (tName 0 2) cYes (cBin oIx (cVar 2) (cC (.int (0)))))) (bSeq (sIf (cTst (cB (bAll fun bs => bs.any id) (aCons (cLc [4] (iRng (aCons (cBin oSub (cB bLen (aCons (cVar 3) aNil)) (cC (.int (1)))) aNil)) (tName 0 4) cYes (cBin oGe (cBin oIx (cVar 3) (cVar 4)) (cBin oIx (cVar 3) (cBin oAdd (cVar 4) (cC (.int (1))))))) aNil))) (sRet (cC (.bool false))) bNil) (sRet (cBin oEqq (cCall Φ "total" (aCons (cLc [2] (iSeq (cVar 0)) (tName 0 2) cYes (cBin oIx (cVar 2) (cC (.int (1))))) aNil)) (cTup (aCons (cC (.int (1))) (aCons (cC (.int (1))) aNil)))))))))
theorem s_are_litters (Φ : Phi) (k : Nat) : SndB (gam Φ k) N_are_litters 2 (defScope st_are_litters) (defBody st_are_litters) (b_are_litters Φ) := by
  unfold b_are_litters
  exact (sB_cons (sS_if (SndW.t (sW_or (sT_not (sT_val (sE_is (T := "tuple") (List.mem_of_getElem? (i := 11) rfl) (List.mem_of_getElem? (i := 6) rfl) (by decide +kernel) (by decide +kernel) boot_tuple (sE_var (i := 0) rfl (by decide +kernel))))) (sW_or1 (sT_not (sT_chain s_le s_le sE_int (sE_blt (x := "len") cb_len (List.mem_of_getElem? (i := 0) rfl) (by decide +kernel) boot_len (sA_cons (sE_var (i := 0) rfl (by decide +kernel)) sA_nil)) (sE_glob (x := "MOST_LITTERS") (by decide +kernel) (List.mem_of_getElem? (i := 1) rfl))))))) (sB_one (sS_ret sE_bl)) sB_nil) (sB_cons (sS_for (sI_seq (sE_var (i := 0) rfl (by decide +kernel))) (sG_name (i := 2) rfl (by decide +kernel)) (sB_cons (sS_if (SndW.t (sW_or (sT_not (sT_val (sE_is (T := "tuple") (List.mem_of_getElem? (i := 11) rfl) (List.mem_of_getElem? (i := 6) rfl) (by decide +kernel) (by decide +kernel) boot_tuple (sE_var (i := 2) rfl (by decide +kernel))))) (sW_or (sT_cmp s_nee (sE_blt (x := "len") cb_len (List.mem_of_getElem? (i := 0) rfl) (by decide +kernel) boot_len (sA_cons (sE_var (i := 2) rfl (by decide +kernel)) sA_nil)) sE_int (by rfl)) (sW_or1 (sT_not (sT_val (sE_call (f := "is_lot") (List.mem_of_getElem? (i := 8) rfl) (by decide +kernel) (sA_cons (sE_ix ix_any (sE_var (i := 2) rfl (by decide +kernel)) sE_int) (sA_cons (sE_var (i := 1) rfl (by decide +kernel)) (sA_cons (sE_glob (x := "MOST_YOUNG") (by decide +kernel) (List.mem_of_getElem? (i := 2) rfl)) sA_nil)))))))))) (sB_one (sS_ret sE_bl)) sB_nil) (sB_one (sS_if (SndW.t (sW_or (sT_not (sT_val (sE_call (f := "is_chance") (List.mem_of_getElem? (i := 3) rfl) (by decide +kernel) (sA_cons (sE_ix ix_any (sE_var (i := 2) rfl (by decide +kernel)) sE_int) sA_nil)))) (sW_or1 (sT_cmp s_eqq (sE_ix ix_any (sE_ix ix_any (sE_var (i := 2) rfl (by decide +kernel)) sE_int) sE_int) sE_int (by rfl))))) (sB_one (sS_ret sE_bl)) sB_nil)))) (sB_cons (sS_set (i := 3) rfl (by decide +kernel) (sE_lc (own := [("row", 2)]) (sI_seq (sE_var (i := 0) rfl (by decide +kernel))) (by decide +kernel) rfl (sG_name (i := 2) rfl (by decide +kernel)) (by decide) sF_nil (sE_ix ix_any (sE_var (i := 2) rfl (by decide +kernel)) sE_int)) (swaps_by (by kernel_rfl))) (sB_cons (sS_if (sT_val (sE_blt (x := "any") cb_any (List.mem_of_getElem? (i := 5) rfl) (by decide +kernel) boot_any (sA_cons (sE_lc (own := [("k", 4)]) (sI_rng1 (List.mem_of_getElem? (i := 10) rfl) (by decide +kernel) (sA_cons (sE_bin s_sub (sE_blt (x := "len") cb_len (List.mem_of_getElem? (i := 0) rfl) (by decide +kernel) boot_len (sA_cons (sE_var (i := 3) rfl (by decide +kernel)) sA_nil)) sE_int) sA_nil)) (by decide +kernel) rfl (sG_name (i := 4) rfl (by decide +kernel)) (by decide) sF_nil (sE_cmp s_ge (sE_ix ix_any (sE_var (i := 3) rfl (by decide +kernel)) (sE_var (i := 4) rfl (by decide +kernel))) (sE_ix ix_any (sE_var (i := 3) rfl (by decide +kernel)) (sE_bin s_add (sE_var (i := 4) rfl (by decide +kernel)) sE_int)) (by rfl))) sA_nil))) (sB_one (sS_ret sE_bl)) sB_nil) (sB_one (sS_ret (sE_cmp s_eqq (sE_call (f := "total") (List.mem_of_getElem? (i := 5) rfl) (by decide +kernel) (sA_cons (sE_lc (own := [("row", 2)]) (sI_seq (sE_var (i := 0) rfl (by decide +kernel))) (by decide +kernel) rfl (sG_name (i := 2) rfl (by decide +kernel)) (by decide) sF_nil (sE_ix ix_any (sE_var (i := 2) rfl (by decide +kernel)) sE_int)) sA_nil)) (sE_tup (sA_cons sE_int (sA_cons sE_int sA_nil))) (by rfl))))))))
abbrev st_is_book : Stmt := top 18
def N_is_book : List Str := ["value", "many", "one"]
theorem sc_is_book : FnScope N_is_book ["value"] (defScope st_is_book) := ⟨rfl, rfl, rfl, by decide +kernel, rfl, by decide +kernel, by decide +kernel⟩
noncomputable def b_is_book (Φ : Phi) : Ex := (bSeq (sIf (cOrB (cNotB (cTst (cIs "tuple" (cVar 0)))) (cOrB (cTst (cBin oNee (cB bLen (aCons (cVar 0) aNil)) (cC (.int (4))))) (cOrB (cTst (cBin oNee (cBin oIx (cVar 0) (cC (.int (0)))) (cC (.str (Str.ofString "book"))))) (cNotB (cTst (cIs "tuple" (cBin oIx (cVar 0) (cC (.int (1)))))))))) (sRet (cC (.bool false))) bNil) (bSeq (sSet 1 1 (cB bLen (aCons (cBin oIx (cVar 0) (cC (.int (1)))) aNil))) (bSeq (sIf (cOrB (cNotB (cTst (cChain oLe oLe (cC (.int (1))) (cVar 1) (cC (.int (8)))))) (cOrB (cNotB (cTst (cB (bAll fun bs => bs.all id) (aCons (cLc [2] (iSeq (cBin oIx (cVar 0) (cC (.int (1))))) (tName 0 2) cYes (cCall Φ "is_name" (aCons (cVar 2) aNil))) aNil)))) (cTst (cBin oLt (cLs (cBin oIx (cVar 0) (cC (.int (1))))) (cVar 1))))) (sRet (cC (.bool false))) bNil) (bSeq (sIf (cOrB (cNotB (cTst (cIs "tuple" (cBin oIx (cVar 0) (cC (.int (2))))))) (cTst (cBin oNee (cB bLen (aCons (cBin oIx (cVar 0) (cC (.int (2)))) aNil)) (cVar 1)))) (sRet (cC (.bool false))) bNil) (sRet (cAnd (cB (bAll fun bs => bs.all id) (aCons (cLc [2] (iSeq (cBin oIx (cVar 0) (cC (.int (2))))) (tName 0 2) cYes (cCall Φ "are_litters" (aCons (cVar 2) (aCons (cVar 1) aNil)))) aNil)) (cCall Φ "is_lot" (aCons (cBin oIx (cVar 0) (cC (.int (3)))) (aCons (cVar 1) (aCons (cC (.int (20))) aNil))))))))))
theorem s_is_book (Φ : Phi) (k : Nat) : SndB (gam Φ k) N_is_book 1 (defScope st_is_book) (defBody st_is_book) (b_is_book Φ) := by
  unfold b_is_book
  exact (sB_cons (sS_if (SndW.t (sW_or (sT_not (sT_val (sE_is (T := "tuple") (List.mem_of_getElem? (i := 11) rfl) (List.mem_of_getElem? (i := 6) rfl) (by decide +kernel) (by decide +kernel) boot_tuple (sE_var (i := 0) rfl (by decide +kernel))))) (sW_or (sT_cmp s_nee (sE_blt (x := "len") cb_len (List.mem_of_getElem? (i := 0) rfl) (by decide +kernel) boot_len (sA_cons (sE_var (i := 0) rfl (by decide +kernel)) sA_nil)) sE_int (by rfl)) (sW_or (sT_cmp s_nee (sE_ix ix_any (sE_var (i := 0) rfl (by decide +kernel)) sE_int) (sE_str (by decide +kernel)) (by rfl)) (sW_or1 (sT_not (sT_val (sE_is (T := "tuple") (List.mem_of_getElem? (i := 11) rfl) (List.mem_of_getElem? (i := 6) rfl) (by decide +kernel) (by decide +kernel) boot_tuple (sE_ix ix_any (sE_var (i := 0) rfl (by decide +kernel)) sE_int))))))))) (sB_one (sS_ret sE_bl)) sB_nil) (sB_cons (sS_set (i := 1) rfl (by decide +kernel) (sE_blt (x := "len") cb_len (List.mem_of_getElem? (i := 0) rfl) (by decide +kernel) boot_len (sA_cons (sE_ix ix_any (sE_var (i := 0) rfl (by decide +kernel)) sE_int) sA_nil))) (sB_cons (sS_if (SndW.t (sW_or (sT_not (sT_chain s_le s_le sE_int (sE_var (i := 1) rfl (by decide +kernel)) (sE_glob (x := "MOST_KINDS") (by decide +kernel) (List.mem_of_getElem? (i := 0) rfl)))) (sW_or (sT_not (sT_val (sE_blt (x := "all") cb_all (List.mem_of_getElem? (i := 4) rfl) (by decide +kernel) boot_all (sA_cons (sE_lc (own := [("one", 2)]) (sI_seq (sE_ix ix_any (sE_var (i := 0) rfl (by decide +kernel)) sE_int)) (by decide +kernel) rfl (sG_name (i := 2) rfl (by decide +kernel)) (by decide) sF_nil (sE_call (f := "is_name") (List.mem_of_getElem? (i := 6) rfl) (by decide +kernel) (sA_cons (sE_var (i := 2) rfl (by decide +kernel)) sA_nil))) sA_nil)))) (sW_or1 (sT_cmp s_lt (sE_ls (List.mem_of_getElem? (i := 0) rfl) (List.mem_of_getElem? (i := 9) rfl) (by decide +kernel) (by decide +kernel) (sE_ix ix_any (sE_var (i := 0) rfl (by decide +kernel)) sE_int)) (sE_var (i := 1) rfl (by decide +kernel)) (by rfl)))))) (sB_one (sS_ret sE_bl)) sB_nil) (sB_cons (sS_if (SndW.t (sW_or (sT_not (sT_val (sE_is (T := "tuple") (List.mem_of_getElem? (i := 11) rfl) (List.mem_of_getElem? (i := 6) rfl) (by decide +kernel) (by decide +kernel) boot_tuple (sE_ix ix_any (sE_var (i := 0) rfl (by decide +kernel)) sE_int)))) (sW_or1 (sT_cmp s_nee (sE_blt (x := "len") cb_len (List.mem_of_getElem? (i := 0) rfl) (by decide +kernel) boot_len (sA_cons (sE_ix ix_any (sE_var (i := 0) rfl (by decide +kernel)) sE_int) sA_nil)) (sE_var (i := 1) rfl (by decide +kernel)) (by rfl))))) (sB_one (sS_ret sE_bl)) sB_nil) (sB_one (sS_ret (sE_and (sE_blt (x := "all") cb_all (List.mem_of_getElem? (i := 4) rfl) (by decide +kernel) boot_all (sA_cons (sE_lc (own := [("one", 2)]) (sI_seq (sE_ix ix_any (sE_var (i := 0) rfl (by decide +kernel)) sE_int)) (by decide +kernel) rfl (sG_name (i := 2) rfl (by decide +kernel)) (by decide) sF_nil (sE_call (f := "are_litters") (List.mem_of_getElem? (i := 9) rfl) (by decide +kernel) (sA_cons (sE_var (i := 2) rfl (by decide +kernel)) (sA_cons (sE_var (i := 1) rfl (by decide +kernel)) sA_nil)))) sA_nil)) (sE_one (sE_call (f := "is_lot") (List.mem_of_getElem? (i := 8) rfl) (by decide +kernel) (sA_cons (sE_ix ix_any (sE_var (i := 0) rfl (by decide +kernel)) sE_int) (sA_cons (sE_var (i := 1) rfl (by decide +kernel)) (sA_cons (sE_glob (x := "MOST_START") (by decide +kernel) (List.mem_of_getElem? (i := 3) rfl)) sA_nil))))))))))))
abbrev st_one_of : Stmt := top 19
def N_one_of : List Str := ["book", "kind", "k"]
theorem sc_one_of : FnScope N_one_of ["book", "kind"] (defScope st_one_of) := ⟨rfl, rfl, rfl, by decide +kernel, rfl, by decide +kernel, by decide +kernel⟩
noncomputable def b_one_of (Φ : Phi) : Ex := (sRet (cB bTup (aCons (cLc [2] (iRng (aCons (cB bLen (aCons (cBin oIx (cVar 0) (cC (.int (1)))) aNil)) aNil)) (tName 0 2) cYes (cB bInt (aCons (cBin oEqq (cVar 2) (cVar 1)) aNil))) aNil)))
theorem s_one_of (Φ : Phi) (k : Nat) : SndB (gam Φ k) N_one_of 2 (defScope st_one_of) (defBody st_one_of) (b_one_of Φ) := by
  unfold b_one_of
  exact (sB_one (sS_ret (sE_ty (x := "tuple") cb_tup (List.mem_of_getElem? (i := 6) rfl) (by decide +kernel) boot_tuple (sA_cons (sE_lc (own := [("k", 2)]) (sI_rng1 (List.mem_of_getElem? (i := 10) rfl) (by decide +kernel) (sA_cons (sE_blt (x := "len") cb_len (List.mem_of_getElem? (i := 0) rfl) (by decide +kernel) boot_len (sA_cons (sE_ix ix_any (sE_var (i := 0) rfl (by decide +kernel)) sE_int) sA_nil)) sA_nil)) (by decide +kernel) rfl (sG_name (i := 2) rfl (by decide +kernel)) (by decide) sF_nil (sE_ty (x := "int") cb_int (List.mem_of_getElem? (i := 2) rfl) (by decide +kernel) boot_int (sA_cons (sE_cmp s_eqq (sE_var (i := 2) rfl (by decide +kernel)) (sE_var (i := 1) rfl (by decide +kernel)) (by rfl)) sA_nil))) sA_nil))))
abbrev st_nothing : Stmt := top 20
def N_nothing : List Str := ["book"]
theorem sc_nothing : FnScope N_nothing ["book"] (defScope st_nothing) := ⟨rfl, rfl, rfl, by decide +kernel, rfl, by decide +kernel, by decide +kernel⟩
noncomputable def b_nothing (Φ : Phi) : Ex := (sRet (cBin oMul (cTup (aCons (cC (.int (0))) aNil)) (cB bLen (aCons (cBin oIx (cVar 0) (cC (.int (1)))) aNil))))
theorem s_nothing (Φ : Phi) (k : Nat) : SndB (gam Φ k) N_nothing 1 (defScope st_nothing) (defBody st_nothing) (b_nothing Φ) := by
  unfold b_nothing
  exact (sB_one (sS_ret (sE_bin s_mul (sE_tup (sA_cons sE_int sA_nil)) (sE_blt (x := "len") cb_len (List.mem_of_getElem? (i := 0) rfl) (by decide +kernel) boot_len (sA_cons (sE_ix ix_any (sE_var (i := 0) rfl (by decide +kernel)) sE_int) sA_nil)))))
abbrev st_together : Stmt := top 21
def N_together : List Str := ["one", "other", "k"]
theorem sc_together : FnScope N_together ["one", "other"] (defScope st_together) := ⟨rfl, rfl, rfl, by decide +kernel, rfl, by decide +kernel, by decide +kernel⟩
noncomputable def b_together (Φ : Phi) : Ex := (sRet (cB bTup (aCons (cLc [2] (iRng (aCons (cB bLen (aCons (cVar 0) aNil)) aNil)) (tName 0 2) cYes (cBin oAdd (cBin oIx (cVar 0) (cVar 2)) (cBin oIx (cVar 1) (cVar 2)))) aNil)))
theorem s_together (Φ : Phi) (k : Nat) : SndB (gam Φ k) N_together 2 (defScope st_together) (defBody st_together) (b_together Φ) := by
  unfold b_together
  exact (sB_one (sS_ret (sE_ty (x := "tuple") cb_tup (List.mem_of_getElem? (i := 6) rfl) (by decide +kernel) boot_tuple (sA_cons (sE_lc (own := [("k", 2)]) (sI_rng1 (List.mem_of_getElem? (i := 10) rfl) (by decide +kernel) (sA_cons (sE_blt (x := "len") cb_len (List.mem_of_getElem? (i := 0) rfl) (by decide +kernel) boot_len (sA_cons (sE_var (i := 0) rfl (by decide +kernel)) sA_nil)) sA_nil)) (by decide +kernel) rfl (sG_name (i := 2) rfl (by decide +kernel)) (by decide) sF_nil (sE_bin s_add (sE_ix ix_any (sE_var (i := 0) rfl (by decide +kernel)) (sE_var (i := 2) rfl (by decide +kernel))) (sE_ix ix_any (sE_var (i := 1) rfl (by decide +kernel)) (sE_var (i := 2) rfl (by decide +kernel))))) sA_nil))))
abbrev st_has : Stmt := top 22
def N_has : List Str := ["lot", "kinds", "k"]
theorem sc_has : FnScope N_has ["lot", "kinds"] (defScope st_has) := ⟨rfl, rfl, rfl, by decide +kernel, rfl, by decide +kernel, by decide +kernel⟩
noncomputable def b_has (Φ : Phi) : Ex := (sRet (cB (bAll fun bs => bs.any id) (aCons (cLc [2] (iSeq (cVar 1)) (tName 0 2) cYes (cBin oGt (cBin oIx (cVar 0) (cVar 2)) (cC (.int (0))))) aNil)))
theorem s_has (Φ : Phi) (k : Nat) : SndB (gam Φ k) N_has 2 (defScope st_has) (defBody st_has) (b_has Φ) := by
  unfold b_has
  exact (sB_one (sS_ret (sE_blt (x := "any") cb_any (List.mem_of_getElem? (i := 5) rfl) (by decide +kernel) boot_any (sA_cons (sE_lc (own := [("k", 2)]) (sI_seq (sE_var (i := 1) rfl (by decide +kernel))) (by decide +kernel) rfl (sG_name (i := 2) rfl (by decide +kernel)) (by decide) sF_nil (sE_cmp s_gt (sE_ix ix_any (sE_var (i := 0) rfl (by decide +kernel)) (sE_var (i := 2) rfl (by decide +kernel))) sE_int (by rfl))) sA_nil))))
abbrev st_children : Stmt := top 23
def N_children : List Str := ["book", "kind", "k", "row"]
theorem sc_children : FnScope N_children ["book", "kind"] (defScope st_children) := ⟨rfl, rfl, rfl, by decide +kernel, rfl, by decide +kernel, by decide +kernel⟩
noncomputable def b_children (Φ : Phi) : Ex := (sRet (cLc [2] (iRng (aCons (cB bLen (aCons (cBin oIx (cVar 0) (cC (.int (1)))) aNil)) aNil)) (tName 0 2) (cTst (cB (bAll fun bs => bs.any id) (aCons (cLc [3] (iSeq (cBin oIx (cBin oIx (cVar 0) (cC (.int (2)))) (cVar 1))) (tName 0 3) cYes (cBin oGt (cBin oIx (cBin oIx (cVar 3) (cC (.int (0)))) (cVar 2)) (cC (.int (0))))) aNil))) (cVar 2)))
theorem s_children (Φ : Phi) (k : Nat) : SndB (gam Φ k) N_children 2 (defScope st_children) (defBody st_children) (b_children Φ) := by
  unfold b_children
  exact (sB_one (sS_ret (sE_lc (own := [("k", 2)]) (sI_rng1 (List.mem_of_getElem? (i := 10) rfl) (by decide +kernel) (sA_cons (sE_blt (x := "len") cb_len (List.mem_of_getElem? (i := 0) rfl) (by decide +kernel) boot_len (sA_cons (sE_ix ix_any (sE_var (i := 0) rfl (by decide +kernel)) sE_int) sA_nil)) sA_nil)) (by decide +kernel) rfl (sG_name (i := 2) rfl (by decide +kernel)) (by decide) (sF_one (sT_val (sE_blt (x := "any") cb_any (List.mem_of_getElem? (i := 5) rfl) (by decide +kernel) boot_any (sA_cons (sE_lc (own := [("row", 3)]) (sI_seq (sE_ix ix_any (sE_ix ix_any (sE_var (i := 0) rfl (by decide +kernel)) sE_int) (sE_var (i := 1) rfl (by decide +kernel)))) (by decide +kernel) rfl (sG_name (i := 3) rfl (by decide +kernel)) (by decide) sF_nil (sE_cmp s_gt (sE_ix ix_any (sE_ix ix_any (sE_var (i := 3) rfl (by decide +kernel)) sE_int) (sE_var (i := 2) rfl (by decide +kernel))) sE_int (by rfl))) sA_nil)))) (sE_var (i := 2) rfl (by decide +kernel)))))
abbrev st_reached : Stmt := top 24
def N_reached : List Str := ["book", "kinds", "found", "at", "k"]
theorem sc_reached : FnScope N_reached ["book", "kinds"] (defScope st_reached) := ⟨rfl, rfl, rfl, by decide +kernel, rfl, by decide +kernel, by decide +kernel⟩
noncomputable def b_reached (Φ : Phi) : Ex := (bSeq (sPar 2 2 3 (cSS true (cVar 1)) (cC (.int (0)))) (bSeq (sWhile 1000000 (cTst (cBin oLt (cVar 3) (cB bLen (aCons (cVar 2) aNil)))) (bSeq (sDrop (cExt 2 (cLc [4] (iSeq (cCall Φ "children" (aCons (cVar 0) (aCons (cBin oIx (cVar 2) (cVar 3)) aNil)))) (tName 0 4) (cTst (cBin oNotIn (cVar 4) (cVar 2))) (cVar 4)))) (sAug 2 3 (cC (.int (1)))))) (sRet (cB (bSorted false) (aCons (cVar 2) aNil)))))
theorem s_reached (Φ : Phi) (k : Nat) : SndB (gam Φ k) N_reached 2 (defScope st_reached) (defBody st_reached) (b_reached Φ) := by
  unfold b_reached
  exact (sB_cons (sS_parT (i := 2) (j := 3) rfl rfl (by decide +kernel) (by decide +kernel) (sE_ss (own := true) (List.mem_of_getElem? (i := 8) rfl) (List.mem_of_getElem? (i := 9) rfl) (by decide +kernel) (by decide +kernel) (sE_var (i := 1) rfl (by decide +kernel))) sE_int (swap_by (by kernel_rfl))) (sB_cons (sS_while (fuel := 1000000) (sT_cmp s_lt (sE_var (i := 3) rfl (by decide +kernel)) (sE_blt (x := "len") cb_len (List.mem_of_getElem? (i := 0) rfl) (by decide +kernel) boot_len (sA_cons (sE_var (i := 2) rfl (by decide +kernel)) sA_nil)) (by rfl)) (sB_cons (sS_expr (sE_ext (i := 2) rfl (by decide +kernel) (sE_lc (own := [("k", 4)]) (sI_seq (sE_call (f := "children") (List.mem_of_getElem? (i := 15) rfl) (by decide +kernel) (sA_cons (sE_var (i := 0) rfl (by decide +kernel)) (sA_cons (sE_ix ix_any (sE_var (i := 2) rfl (by decide +kernel)) (sE_var (i := 3) rfl (by decide +kernel))) sA_nil)))) (by decide +kernel) rfl (sG_name (i := 4) rfl (by decide +kernel)) (by decide) (sF_one (sT_cmp s_notIn (sE_var (i := 4) rfl (by decide +kernel)) (sE_var (i := 2) rfl (by decide +kernel)) (by rfl))) (sE_var (i := 4) rfl (by decide +kernel))))) (sB_one (sS_aug (i := 3) rfl (by decide +kernel) sE_int)))) (sB_one (sS_ret (sE_blt (x := "sorted") (cb_sorted (own := false)) (List.mem_of_getElem? (i := 8) rfl) (by decide +kernel) boot_sorted (sA_cons (sE_var (i := 2) rfl (by decide +kernel)) sA_nil))))))
abbrev st_started : Stmt := top 25
def N_started : List Str := ["book", "k"]
theorem sc_started : FnScope N_started ["book"] (defScope st_started) := ⟨rfl, rfl, rfl, by decide +kernel, rfl, by decide +kernel, by decide +kernel⟩
noncomputable def b_started (Φ : Phi) : Ex := (sRet (cLc [1] (iRng (aCons (cB bLen (aCons (cBin oIx (cVar 0) (cC (.int (1)))) aNil)) aNil)) (tName 0 1) (cTst (cBin oGt (cBin oIx (cBin oIx (cVar 0) (cC (.int (3)))) (cVar 1)) (cC (.int (0))))) (cVar 1)))
theorem s_started (Φ : Phi) (k : Nat) : SndB (gam Φ k) N_started 1 (defScope st_started) (defBody st_started) (b_started Φ) := by
  unfold b_started
  exact (sB_one (sS_ret (sE_lc (own := [("k", 1)]) (sI_rng1 (List.mem_of_getElem? (i := 10) rfl) (by decide +kernel) (sA_cons (sE_blt (x := "len") cb_len (List.mem_of_getElem? (i := 0) rfl) (by decide +kernel) boot_len (sA_cons (sE_ix ix_any (sE_var (i := 0) rfl (by decide +kernel)) sE_int) sA_nil)) sA_nil)) (by decide +kernel) rfl (sG_name (i := 1) rfl (by decide +kernel)) (by decide) (sF_one (sT_cmp s_gt (sE_ix ix_any (sE_ix ix_any (sE_var (i := 0) rfl (by decide +kernel)) sE_int) (sE_var (i := 1) rfl (by decide +kernel))) sE_int (by rfl))) (sE_var (i := 1) rfl (by decide +kernel)))))
abbrev st_with_start : Stmt := top 26
def N_with_start : List Str := ["book", "lot"]
theorem sc_with_start : FnScope N_with_start ["book", "lot"] (defScope st_with_start) := ⟨rfl, rfl, rfl, by decide +kernel, rfl, by decide +kernel, by decide +kernel⟩
noncomputable def b_with_start (Φ : Phi) : Ex := (sRet (cBin oAdd (cSl (cVar 0) oNone (oSome (cC (.int (3))))) (cTup (aCons (cVar 1) aNil))))
theorem s_with_start (Φ : Phi) (k : Nat) : SndB (gam Φ k) N_with_start 2 (defScope st_with_start) (defBody st_with_start) (b_with_start Φ) := by
  unfold b_with_start
  exact (sB_one (sS_ret (sE_bin s_add (sE_sl (sE_var (i := 0) rfl (by decide +kernel)) sO_none (sO_some sE_int)) (sE_tup (sA_cons (sE_var (i := 1) rfl (by decide +kernel)) sA_nil)))))
abbrev st_sorted_litters : Stmt := top 27
def N_sorted_litters : List Str := ["rows", "lots", "row", "found", "lot"]
theorem sc_sorted_litters : FnScope N_sorted_litters ["rows"] (defScope st_sorted_litters) := ⟨rfl, rfl, rfl, by decide +kernel, rfl, by decide +kernel, by decide +kernel⟩
noncomputable def b_sorted_litters (Φ : Phi) : Ex := (bSeq (sSet 1 1 (cSS false (cLc [2] (iSeq (cVar 0)) (tName 0 2) cYes (cBin oIx (cVar 2) (cC (.int (0))))))) (bSeq (sSet 1 3 (cLc [4] (iSeq (cVar 1)) (tName 0 4) cYes (cTup (aCons (cVar 4) (aCons (cCall Φ "total" (aCons (cLc [2] (iSeq (cVar 0)) (tName 0 2) (cTst (cBin oEqq (cBin oIx (cVar 2) (cC (.int (0)))) (cVar 4))) (cBin oIx (cVar 2) (cC (.int (1))))) aNil)) aNil))))) (sRet (cB bTup (aCons (cLc [2] (iSeq (cVar 3)) (tName 0 2) (cTst (cBin oGt (cBin oIx (cBin oIx (cVar 2) (cC (.int (1)))) (cC (.int (0)))) (cC (.int (0))))) (cVar 2)) aNil)))))
theorem s_sorted_litters (Φ : Phi) (k : Nat) : SndB (gam Φ k) N_sorted_litters 1 (defScope st_sorted_litters) (defBody st_sorted_litters) (b_sorted_litters Φ) := by
  unfold b_sorted_litters
  exact (sB_cons (sS_set (i := 1) rfl (by decide +kernel) (sE_ss (own := false) (List.mem_of_getElem? (i := 8) rfl) (List.mem_of_getElem? (i := 9) rfl) (by decide +kernel) (by decide +kernel) (sE_lc (own := [("row", 2)]) (sI_seq (sE_var (i := 0) rfl (by decide +kernel))) (by decide +kernel) rfl (sG_name (i := 2) rfl (by decide +kernel)) (by decide) sF_nil (sE_ix ix_any (sE_var (i := 2) rfl (by decide +kernel)) sE_int)))) (sB_cons (sS_setLc (i := 3) (own := [("lot", 4)]) rfl (by kernel_rfl) (by kernel_rfl) (by rfl) (by decide +kernel) (sI_seq (sE_var (i := 1) rfl (by decide +kernel))) (by decide +kernel) rfl (sG_name (i := 4) rfl (by decide +kernel)) (by decide) sF_nil (sE_tup (sA_cons (sE_var (i := 4) rfl (by decide +kernel)) (sA_cons (sE_call (f := "total") (List.mem_of_getElem? (i := 5) rfl) (by decide +kernel) (sA_cons (sE_lc (own := [("row", 2)]) (sI_seq (sE_var (i := 0) rfl (by decide +kernel))) (by decide +kernel) rfl (sG_name (i := 2) rfl (by decide +kernel)) (by decide) (sF_one (sT_cmp s_eqq (sE_ix ix_any (sE_var (i := 2) rfl (by decide +kernel)) sE_int) (sE_var (i := 4) rfl (by decide +kernel)) (by rfl))) (sE_ix ix_any (sE_var (i := 2) rfl (by decide +kernel)) sE_int)) sA_nil)) sA_nil)))) (sB_one (sS_ret (sE_ty (x := "tuple") cb_tup (List.mem_of_getElem? (i := 6) rfl) (by decide +kernel) boot_tuple (sA_cons (sE_lc (own := [("row", 2)]) (sI_seq (sE_var (i := 3) rfl (by decide +kernel))) (by decide +kernel) rfl (sG_name (i := 2) rfl (by decide +kernel)) (by decide) (sF_one (sT_cmp s_gt (sE_ix ix_any (sE_ix ix_any (sE_var (i := 2) rfl (by decide +kernel)) sE_int) sE_int) sE_int (by rfl))) (sE_var (i := 2) rfl (by decide +kernel))) sA_nil))))))
abbrev st_can_end : Stmt := top 29
def N_can_end : List Str := ["book", "found", "rounds", "fresh", "k"]
theorem sc_can_end : FnScope N_can_end ["book"] (defScope st_can_end) := ⟨rfl, rfl, rfl, by decide +kernel, rfl, by decide +kernel, by decide +kernel⟩
noncomputable def b_can_end (Φ : Phi) : Ex := (bSeq (sPar 1 1 2 cNk (cC (.int (0)))) (sWhile 1000000 (cTst (cC (.bool true))) (bSeq (sAug 1 2 (cC (.int (1)))) (bSeq (sSet 1 3 (cLc [4] (iRng (aCons (cB bLen (aCons (cBin oIx (cVar 0) (cC (.int (1)))) aNil)) aNil)) (tName 0 4) (cAndB (cTst (cBin oNotIn (cVar 4) (cVar 1))) (cTst (cCall Φ "ends_by" (aCons (cVar 0) (aCons (cVar 4) (aCons (cVar 1) aNil)))))) (cVar 4))) (bSeq (sIf (cTst (cBin oEqq (cVar 3) (cLst aNil))) (sRetM (cVar 1)) bNil) (sFor (iSeq (cVar 3)) (tName 1 4) (sPut 1 (cVar 4) (cVar 2))))))))
theorem s_can_end (Φ : Phi) (k : Nat) : SndB (gam Φ k) N_can_end 1 (defScope st_can_end) (defBody st_can_end) (b_can_end Φ) := by
  unfold b_can_end
  exact (sB_cons (sS_parT (i := 1) (j := 2) rfl rfl (by decide +kernel) (by decide +kernel) sE_nk sE_int (swap_by (by kernel_rfl))) (sB_one (sS_while (fuel := 1000000) (sT_val sE_bl) (sB_cons (sS_aug (i := 2) rfl (by decide +kernel) sE_int) (sB_cons (sS_setLc (i := 3) (own := [("k", 4)]) rfl (by kernel_rfl) (by kernel_rfl) (by rfl) (by decide +kernel) (sI_rng1 (List.mem_of_getElem? (i := 10) rfl) (by decide +kernel) (sA_cons (sE_blt (x := "len") cb_len (List.mem_of_getElem? (i := 0) rfl) (by decide +kernel) boot_len (sA_cons (sE_ix ix_any (sE_var (i := 0) rfl (by decide +kernel)) sE_int) sA_nil)) sA_nil)) (by decide +kernel) rfl (sG_name (i := 4) rfl (by decide +kernel)) (by decide) (sF_one (SndW.t (sW_and (sT_cmp s_notIn (sE_var (i := 4) rfl (by decide +kernel)) (sE_var (i := 1) rfl (by decide +kernel)) (by rfl)) (sW_and1 (sT_val (sE_call (f := "ends_by") (List.mem_of_getElem? (i := 21) rfl) (by decide +kernel) (sA_cons (sE_var (i := 0) rfl (by decide +kernel)) (sA_cons (sE_var (i := 4) rfl (by decide +kernel)) (sA_cons (sE_var (i := 1) rfl (by decide +kernel)) sA_nil))))))))) (sE_var (i := 4) rfl (by decide +kernel))) (sB_cons (sS_if (sT_cmp s_eqq (sE_var (i := 3) rfl (by decide +kernel)) (sE_lst sA_nil) (by rfl)) (sB_one (sS_retM (sE_var (i := 1) rfl (by decide +kernel)))) sB_nil) (sB_one (sS_for (sI_seq (sE_var (i := 3) rfl (by decide +kernel))) (sG_name (i := 4) rfl (by decide +kernel)) (sB_one (sS_put (i := 1) rfl (by decide +kernel) (sE_var (i := 4) rfl (by decide +kernel)) (sE_var (i := 2) rfl (by decide +kernel))))))))))))
abbrev st_ends_by : Stmt := top 30
def N_ends_by : List Str := ["book", "kind", "found", "rest", "k", "lot", "chance"]
theorem sc_ends_by : FnScope N_ends_by ["book", "kind", "found"] (defScope st_ends_by) := ⟨rfl, rfl, rfl, by decide +kernel, rfl, by decide +kernel, by decide +kernel⟩
noncomputable def b_ends_by (Φ : Phi) : Ex := (bSeq (sSet 3 3 (cLc [4] (iRng (aCons (cB bLen (aCons (cBin oIx (cVar 0) (cC (.int (1)))) aNil)) aNil)) (tName 0 4) (cTst (cBin oNotIn (cVar 4) (cVar 2))) (cVar 4))) (sRet (cB (bAll fun bs => bs.any id) (aCons (cLc [5, 6] (iSeq (cBin oIx (cBin oIx (cVar 0) (cC (.int (2)))) (cVar 1))) (tPair 0 5 6) cYes (cNot (cCall Φ "has" (aCons (cVar 5) (aCons (cVar 3) aNil))))) aNil))))
theorem s_ends_by (Φ : Phi) (k : Nat) : SndB (gam Φ k) N_ends_by 3 (defScope st_ends_by) (defBody st_ends_by) (b_ends_by Φ) := by
  unfold b_ends_by
  exact (sB_cons (sS_set (i := 3) rfl (by decide +kernel) (sE_lc (own := [("k", 4)]) (sI_rng1 (List.mem_of_getElem? (i := 10) rfl) (by decide +kernel) (sA_cons (sE_blt (x := "len") cb_len (List.mem_of_getElem? (i := 0) rfl) (by decide +kernel) boot_len (sA_cons (sE_ix ix_any (sE_var (i := 0) rfl (by decide +kernel)) sE_int) sA_nil)) sA_nil)) (by decide +kernel) rfl (sG_name (i := 4) rfl (by decide +kernel)) (by decide) (sF_one (sT_cmp s_notIn (sE_var (i := 4) rfl (by decide +kernel)) (sE_var (i := 2) rfl (by decide +kernel)) (by rfl))) (sE_var (i := 4) rfl (by decide +kernel))) (swaps_by (by kernel_rfl))) (sB_one (sS_ret (sE_blt (x := "any") cb_any (List.mem_of_getElem? (i := 5) rfl) (by decide +kernel) boot_any (sA_cons (sE_lc (own := [("lot", 5), ("chance", 6)]) (sI_seq (sE_ix ix_any (sE_ix ix_any (sE_var (i := 0) rfl (by decide +kernel)) sE_int) (sE_var (i := 1) rfl (by decide +kernel)))) (by decide +kernel) rfl (sG_pair (i := 5) (j := 6) rfl (by decide +kernel) rfl (by decide +kernel)) (by decide) sF_nil (sE_not (sE_call (f := "has") (List.mem_of_getElem? (i := 14) rfl) (by decide +kernel) (sA_cons (sE_var (i := 5) rfl (by decide +kernel)) (sA_cons (sE_var (i := 3) rfl (by decide +kernel)) sA_nil))))) sA_nil)))))
abbrev st_endless : Stmt := top 31
def N_endless : List Str := ["book", "told", "k"]
theorem sc_endless : FnScope N_endless ["book"] (defScope st_endless) := ⟨rfl, rfl, rfl, by decide +kernel, rfl, by decide +kernel, by decide +kernel⟩
noncomputable def b_endless (Φ : Phi) : Ex := (bSeq (sSet 1 1 (cCall Φ "can_end" (aCons (cVar 0) aNil))) (sRet (cLc [2] (iRng (aCons (cB bLen (aCons (cBin oIx (cVar 0) (cC (.int (1)))) aNil)) aNil)) (tName 0 2) (cTst (cBin oNotIn (cVar 2) (cVar 1))) (cVar 2))))
theorem s_endless (Φ : Phi) (k : Nat) : SndB (gam Φ k) N_endless 1 (defScope st_endless) (defBody st_endless) (b_endless Φ) := by
  unfold b_endless
  exact (sB_cons (sS_set (i := 1) rfl (by decide +kernel) (sE_call (f := "can_end") (List.mem_of_getElem? (i := 20) rfl) (by decide +kernel) (sA_cons (sE_var (i := 0) rfl (by decide +kernel)) sA_nil))) (sB_one (sS_ret (sE_lc (own := [("k", 2)]) (sI_rng1 (List.mem_of_getElem? (i := 10) rfl) (by decide +kernel) (sA_cons (sE_blt (x := "len") cb_len (List.mem_of_getElem? (i := 0) rfl) (by decide +kernel) boot_len (sA_cons (sE_ix ix_any (sE_var (i := 0) rfl (by decide +kernel)) sE_int) sA_nil)) sA_nil)) (by decide +kernel) rfl (sG_name (i := 2) rfl (by decide +kernel)) (by decide) (sF_one (sT_cmp s_notIn (sE_var (i := 2) rfl (by decide +kernel)) (sE_var (i := 1) rfl (by decide +kernel)) (by rfl))) (sE_var (i := 2) rfl (by decide +kernel))))))
abbrev st_accepts_endless : Stmt := top 32
def N_accepts_endless : List Str := ["book", "kind", "value", "k", "lot", "chance"]
theorem sc_accepts_endless : FnScope N_accepts_endless ["book", "kind", "value"] (defScope st_accepts_endless) := ⟨rfl, rfl, rfl, by decide +kernel, rfl, by decide +kernel, by decide +kernel⟩
noncomputable def b_accepts_endless (Φ : Phi) : Ex := (bSeq (sIf (cOrB (cNotB (cTst (cIs "tuple" (cVar 2)))) (cOrB (cNotB (cTst (cB (bAll fun bs => bs.all id) (aCons (cLc [3] (iSeq (cVar 2)) (tName 0 3) cYes (cCall Φ "is_whole" (aCons (cVar 3) (aCons (cC (.int (0))) (aCons (cBin oSub (cB bLen (aCons (cBin oIx (cVar 0) (cC (.int (1)))) aNil)) (cC (.int (1)))) aNil))))) aNil)))) (cTst (cBin oNotIn (cVar 1) (cVar 2))))) (sRet (cC (.bool false))) bNil) (sRet (cB (bAll fun bs => bs.all id) (aCons (cLc [3] (iSeq (cVar 2)) (tName 0 3) cYes (cB (bAll fun bs => bs.all id) (aCons (cLc [4, 5] (iSeq (cBin oIx (cBin oIx (cVar 0) (cC (.int (2)))) (cVar 3))) (tPair 0 4 5) cYes (cCall Φ "has" (aCons (cVar 4) (aCons (cVar 2) aNil)))) aNil))) aNil))))
theorem s_accepts_endless (Φ : Phi) (k : Nat) : SndB (gam Φ k) N_accepts_endless 3 (defScope st_accepts_endless) (defBody st_accepts_endless) (b_accepts_endless Φ) := by
  unfold b_accepts_endless
  exact (sB_cons (sS_if (SndW.t (sW_or (sT_not (sT_val (sE_is (T := "tuple") (List.mem_of_getElem? (i := 11) rfl) (List.mem_of_getElem? (i := 6) rfl) (by decide +kernel) (by decide +kernel) boot_tuple (sE_var (i := 2) rfl (by decide +kernel))))) (sW_or (sT_not (sT_val (sE_blt (x := "all") cb_all (List.mem_of_getElem? (i := 4) rfl) (by decide +kernel) boot_all (sA_cons (sE_lc (own := [("k", 3)]) (sI_seq (sE_var (i := 2) rfl (by decide +kernel))) (by decide +kernel) rfl (sG_name (i := 3) rfl (by decide +kernel)) (by decide) sF_nil (sE_call (f := "is_whole") (List.mem_of_getElem? (i := 7) rfl) (by decide +kernel) (sA_cons (sE_var (i := 3) rfl (by decide +kernel)) (sA_cons sE_int (sA_cons (sE_bin s_sub (sE_blt (x := "len") cb_len (List.mem_of_getElem? (i := 0) rfl) (by decide +kernel) boot_len (sA_cons (sE_ix ix_any (sE_var (i := 0) rfl (by decide +kernel)) sE_int) sA_nil)) sE_int) sA_nil))))) sA_nil)))) (sW_or1 (sT_cmp s_notIn (sE_var (i := 1) rfl (by decide +kernel)) (sE_var (i := 2) rfl (by decide +kernel)) (by rfl)))))) (sB_one (sS_ret sE_bl)) sB_nil) (sB_one (sS_ret (sE_blt (x := "all") cb_all (List.mem_of_getElem? (i := 4) rfl) (by decide +kernel) boot_all (sA_cons (sE_lc (own := [("k", 3)]) (sI_seq (sE_var (i := 2) rfl (by decide +kernel))) (by decide +kernel) rfl (sG_name (i := 3) rfl (by decide +kernel)) (by decide) sF_nil (sE_blt (x := "all") cb_all (List.mem_of_getElem? (i := 4) rfl) (by decide +kernel) boot_all (sA_cons (sE_lc (own := [("lot", 4), ("chance", 5)]) (sI_seq (sE_ix ix_any (sE_ix ix_any (sE_var (i := 0) rfl (by decide +kernel)) sE_int) (sE_var (i := 3) rfl (by decide +kernel)))) (by decide +kernel) rfl (sG_pair (i := 4) (j := 5) rfl (by decide +kernel) rfl (by decide +kernel)) (by decide) sF_nil (sE_call (f := "has") (List.mem_of_getElem? (i := 14) rfl) (by decide +kernel) (sA_cons (sE_var (i := 4) rfl (by decide +kernel)) (sA_cons (sE_var (i := 2) rfl (by decide +kernel)) sA_nil)))) sA_nil))) sA_nil)))))
abbrev st_lots_of : Stmt := top 33
def N_lots_of : List Str := ["book", "told", "found", "k", "lot", "j"]
theorem sc_lots_of : FnScope N_lots_of ["book"] (defScope st_lots_of) := ⟨rfl, rfl, rfl, by decide +kernel, rfl, by decide +kernel, by decide +kernel⟩
noncomputable def b_lots_of (Φ : Phi) : Ex := (bSeq (sPar 1 1 2 (cLc [3] (iRng (aCons (cB bLen (aCons (cBin oIx (cVar 0) (cC (.int (1)))) aNil)) aNil)) (tName 0 3) cYes (cCall Φ "reached" (aCons (cVar 0) (aCons (cLst (aCons (cVar 3) aNil)) aNil)))) (cNl aNil)) (bSeq (sFor (iRng (aCons (cB bLen (aCons (cBin oIx (cVar 0) (cC (.int (1)))) aNil)) aNil)) (tName 1 3) (sIf (cNotB (cTst (cB (bAll fun bs => bs.any id) (aCons (cLcG 2 [4] (tName 0 4) cYes (cBin oIn (cVar 3) (cVar 4))) aNil)))) (sDrop (cApp 2 (cLc [5] (iSeq (cBin oIx (cVar 1) (cVar 3))) (tName 0 5) (cTst (cBin oIn (cVar 3) (cBin oIx (cVar 1) (cVar 5)))) (cVar 5)))) bNil)) (sRetM (cVar 2))))
theorem s_lots_of (Φ : Phi) (k : Nat) : SndB (gam Φ k) N_lots_of 1 (defScope st_lots_of) (defBody st_lots_of) (b_lots_of Φ) := by
  unfold b_lots_of
  exact (sB_cons (sS_parT (i := 1) (j := 2) rfl rfl (by decide +kernel) (by decide +kernel) (sE_lc (own := [("k", 3)]) (sI_rng1 (List.mem_of_getElem? (i := 10) rfl) (by decide +kernel) (sA_cons (sE_blt (x := "len") cb_len (List.mem_of_getElem? (i := 0) rfl) (by decide +kernel) boot_len (sA_cons (sE_ix ix_any (sE_var (i := 0) rfl (by decide +kernel)) sE_int) sA_nil)) sA_nil)) (by decide +kernel) rfl (sG_name (i := 3) rfl (by decide +kernel)) (by decide) sF_nil (sE_call (f := "reached") (List.mem_of_getElem? (i := 16) rfl) (by decide +kernel) (sA_cons (sE_var (i := 0) rfl (by decide +kernel)) (sA_cons (sE_lst (sA_cons (sE_var (i := 3) rfl (by decide +kernel)) sA_nil)) sA_nil)))) (sE_nl sA_nil) (swap_by (by kernel_rfl))) (sB_cons (sS_for (sI_rng1 (List.mem_of_getElem? (i := 10) rfl) (by decide +kernel) (sA_cons (sE_blt (x := "len") cb_len (List.mem_of_getElem? (i := 0) rfl) (by decide +kernel) boot_len (sA_cons (sE_ix ix_any (sE_var (i := 0) rfl (by decide +kernel)) sE_int) sA_nil)) sA_nil)) (sG_name (i := 3) rfl (by decide +kernel)) (sB_one (sS_if (sT_not (sT_val (sE_blt (x := "any") cb_any (List.mem_of_getElem? (i := 5) rfl) (by decide +kernel) boot_any (sA_cons (sE_lcG (k := 2) (own := [("lot", 4)]) rfl (by decide +kernel) (by decide +kernel) rfl (sG_name (i := 4) rfl (by decide +kernel)) (by decide) sF_nil (sE_cmp s_in (sE_var (i := 3) rfl (by decide +kernel)) (sE_var (i := 4) rfl (by decide +kernel)) (by rfl))) sA_nil)))) (sB_one (sS_expr (sE_app (i := 2) rfl (by decide +kernel) (sE_lc (own := [("j", 5)]) (sI_seq (sE_ix ix_any (sE_var (i := 1) rfl (by decide +kernel)) (sE_var (i := 3) rfl (by decide +kernel)))) (by decide +kernel) rfl (sG_name (i := 5) rfl (by decide +kernel)) (by decide) (sF_one (sT_cmp s_in (sE_var (i := 3) rfl (by decide +kernel)) (sE_ix ix_any (sE_var (i := 1) rfl (by decide +kernel)) (sE_var (i := 5) rfl (by decide +kernel))) (by rfl))) (sE_var (i := 5) rfl (by decide +kernel)))))) sB_nil))) (sB_one (sS_retM (sE_var (i := 2) rfl (by decide +kernel))))))
abbrev st_is_circling : Stmt := top 34
def N_is_circling : List Str := ["book", "lot", "j", "k"]
theorem sc_is_circling : FnScope N_is_circling ["book", "lot"] (defScope st_is_circling) := ⟨rfl, rfl, rfl, by decide +kernel, rfl, by decide +kernel, by decide +kernel⟩
noncomputable def b_is_circling (Φ : Phi) : Ex := (sRet (cB (bAll fun bs => bs.any id) (aCons (cLc2 [2, 3] [3] (iSeq (cVar 1)) (tName 0 2) cYes (iSeq (cVar 1)) (tName 0 3) cYes (cBin oIn (cVar 3) (cCall Φ "children" (aCons (cVar 0) (aCons (cVar 2) aNil))))) aNil)))
theorem s_is_circling (Φ : Phi) (k : Nat) : SndB (gam Φ k) N_is_circling 2 (defScope st_is_circling) (defBody st_is_circling) (b_is_circling Φ) := by
  unfold b_is_circling
  exact (sB_one (sS_ret (sE_blt (x := "any") cb_any (List.mem_of_getElem? (i := 5) rfl) (by decide +kernel) boot_any (sA_cons (sE_lc2 (own := [("j", 2), ("k", 3)]) (vs1 := [3]) (sI_seq (sE_var (i := 1) rfl (by decide +kernel))) (by decide +kernel) rfl (by decide) (sG_name (i := 2) rfl (by decide +kernel)) (by decide) sF_nil (sI_seq (sE_var (i := 1) rfl (by decide +kernel))) (sG_name (i := 3) rfl (by decide +kernel)) (by decide) sF_nil (sE_cmp s_in (sE_var (i := 3) rfl (by decide +kernel)) (sE_call (f := "children") (List.mem_of_getElem? (i := 15) rfl) (by decide +kernel) (sA_cons (sE_var (i := 0) rfl (by decide +kernel)) (sA_cons (sE_var (i := 2) rfl (by decide +kernel)) sA_nil))) (by rfl))) sA_nil))))
abbrev st_is_plain : Stmt := top 35
def N_is_plain : List Str := ["book", "lot", "j", "k", "row"]
theorem sc_is_plain : FnScope N_is_plain ["book", "lot"] (defScope st_is_plain) := ⟨rfl, rfl, rfl, by decide +kernel, rfl, by decide +kernel, by decide +kernel⟩
noncomputable def b_is_plain (Φ : Phi) : Ex := (sRet (cB (bAll fun bs => bs.all id) (aCons (cLc2 [3, 4] [4] (iSeq (cVar 1)) (tName 0 3) cYes (iSeq (cBin oIx (cBin oIx (cVar 0) (cC (.int (2)))) (cVar 3))) (tName 0 4) cYes (cBin oEqq (cB bSum (aCons (cLc [2] (iSeq (cVar 1)) (tName 0 2) cYes (cBin oIx (cBin oIx (cVar 4) (cC (.int (0)))) (cVar 2))) aNil)) (cC (.int (1))))) aNil)))
theorem s_is_plain (Φ : Phi) (k : Nat) : SndB (gam Φ k) N_is_plain 2 (defScope st_is_plain) (defBody st_is_plain) (b_is_plain Φ) := by
  unfold b_is_plain
  exact (sB_one (sS_ret (sE_blt (x := "all") cb_all (List.mem_of_getElem? (i := 4) rfl) (by decide +kernel) boot_all (sA_cons (sE_lc2 (own := [("k", 3), ("row", 4)]) (vs1 := [4]) (sI_seq (sE_var (i := 1) rfl (by decide +kernel))) (by decide +kernel) rfl (by decide) (sG_name (i := 3) rfl (by decide +kernel)) (by decide) sF_nil (sI_seq (sE_ix ix_any (sE_ix ix_any (sE_var (i := 0) rfl (by decide +kernel)) sE_int) (sE_var (i := 3) rfl (by decide +kernel)))) (sG_name (i := 4) rfl (by decide +kernel)) (by decide) sF_nil (sE_cmp s_eqq (sE_blt (x := "sum") cb_sum (List.mem_of_getElem? (i := 3) rfl) (by decide +kernel) boot_sum (sA_cons (sE_lc (own := [("j", 2)]) (sI_seq (sE_var (i := 1) rfl (by decide +kernel))) (by decide +kernel) rfl (sG_name (i := 2) rfl (by decide +kernel)) (by decide) sF_nil (sE_ix ix_any (sE_ix ix_any (sE_var (i := 4) rfl (by decide +kernel)) sE_int) (sE_var (i := 2) rfl (by decide +kernel)))) sA_nil)) sE_int (by rfl))) sA_nil))))
abbrev st__law_state : Stmt := top 37
def N__law_state : List Str := ["script", "cells", "cell"]
theorem sc__law_state : FnScope N__law_state ["script"] (defScope st__law_state) := ⟨rfl, rfl, rfl, by decide +kernel, rfl, by decide +kernel, by decide +kernel⟩
noncomputable def b__law_state (Φ : Phi) : Ex := (bSeq (sSet 1 1 (cLcO [2] (iSeq (cSl (cVar 0) oNone (oSome (cC (.int (63)))))) (tName 0 2) cYes (cB bAbs (aCons (cVar 2) aNil)))) (bSeq (sIf (cTst (cBin oEqq (cB bLen (aCons (cVar 1) aNil)) (cC (.int (0))))) (sSet 1 1 (cNl (aCons (cC (.int (0))) aNil))) bNil) (sRet (cTape 0 1))))
theorem s__law_state (Φ : Phi) (k : Nat) : SndB (gam Φ k) N__law_state 1 (defScope st__law_state) (defBody st__law_state) (b__law_state Φ) := by
  unfold b__law_state
  exact (sB_cons (sS_setLcO (i := 1) (own := [("cell", 2)]) rfl (by kernel_rfl) (by kernel_rfl) (by rfl) (by decide +kernel) (sI_seq (sE_sl (sE_var (i := 0) rfl (by decide +kernel)) sO_none (sO_some sE_int))) (by decide +kernel) rfl (sG_name (i := 2) rfl (by decide +kernel)) (by decide) sF_nil (sE_blt (x := "abs") cb_abs (List.mem_of_getElem? (i := 1) rfl) (by decide +kernel) boot_abs (sA_cons (sE_var (i := 2) rfl (by decide +kernel)) sA_nil))) (sB_cons (sS_if (sT_cmp s_eqq (sE_blt (x := "len") cb_len (List.mem_of_getElem? (i := 0) rfl) (by decide +kernel) boot_len (sA_cons (sE_var (i := 1) rfl (by decide +kernel)) sA_nil)) sE_int (by rfl)) (sB_one (sS_set (i := 1) rfl (by decide +kernel) (sE_nl (sA_cons sE_int sA_nil)))) sB_nil) (sB_one (sS_ret (sE_tape rfl (by decide +kernel))))))
abbrev st__law_take : Stmt := top 38
def N__law_take : List Str := ["state", "bound", "cells", "spot", "cell", "mixed"]
theorem sc__law_take : FnScope N__law_take ["state", "bound"] (defScope st__law_take) := ⟨rfl, rfl, rfl, by decide +kernel, rfl, by decide +kernel, by decide +kernel⟩
abbrev st__law_fr : Stmt := top 39
def N__law_fr : List Str := ["upper", "lower", "one", "other", "turn"]
theorem sc__law_fr : FnScope N__law_fr ["upper", "lower"] (defScope st__law_fr) := ⟨rfl, rfl, rfl, by decide +kernel, rfl, by decide +kernel, by decide +kernel⟩
noncomputable def b__law_fr (Φ : Phi) : Ex := (bSeq (sIf (cTst (cBin oLt (cVar 1) (cC (.int (0))))) (sPar 2 0 1 (cBin oSub (cC (.int (0))) (cVar 0)) (cBin oSub (cC (.int (0))) (cVar 1))) bNil) (bSeq (sPar 2 2 3 (cB bAbs (aCons (cVar 0) aNil)) (cVar 1)) (bSeq (sFor (iRng (aCons (cC (.int (4000))) aNil)) (tName 2 4) (bSeq (sIf (cTst (cBin oEqq (cVar 3) (cC (.int (0))))) sBrk bNil) (sPar 2 2 3 (cVar 3) (cBin oMod (cB bInt (aCons (cVar 2) aNil)) (cVar 3))))) (sRet (cTup (aCons (cBin oFdv (cVar 0) (cVar 2)) (aCons (cBin oFdv (cVar 1) (cVar 2)) aNil)))))))
theorem s__law_fr (Φ : Phi) (k : Nat) : SndB (gam Φ k) N__law_fr 2 (defScope st__law_fr) (defBody st__law_fr) (b__law_fr Φ) := by
  unfold b__law_fr
  exact (sB_cons (sS_if (sT_cmp s_lt (sE_var (i := 1) rfl (by decide +kernel)) sE_int (by rfl)) (sB_one (sS_par (i := 0) (j := 1) rfl rfl (by decide) (by decide +kernel) (by decide +kernel) (sE_bin s_sub sE_int (sE_var (i := 0) rfl (by decide +kernel))) (sE_bin s_sub sE_int (sE_var (i := 1) rfl (by decide +kernel))) (swap_by (by kernel_rfl)))) sB_nil) (sB_cons (sS_par (i := 2) (j := 3) rfl rfl (by decide) (by decide +kernel) (by decide +kernel) (sE_blt (x := "abs") cb_abs (List.mem_of_getElem? (i := 1) rfl) (by decide +kernel) boot_abs (sA_cons (sE_var (i := 0) rfl (by decide +kernel)) sA_nil)) (sE_var (i := 1) rfl (by decide +kernel)) (swap_by (by kernel_rfl))) (sB_cons (sS_for (sI_rng1 (List.mem_of_getElem? (i := 10) rfl) (by decide +kernel) (sA_cons sE_int sA_nil)) (sG_name (i := 4) rfl (by decide +kernel)) (sB_cons (sS_if (sT_cmp s_eqq (sE_var (i := 3) rfl (by decide +kernel)) sE_int (by rfl)) (sB_one sS_break) sB_nil) (sB_one (sS_par (i := 2) (j := 3) rfl rfl (by decide) (by decide +kernel) (by decide +kernel) (sE_var (i := 3) rfl (by decide +kernel)) (sE_bin s_mod (sE_ty (x := "int") cb_int (List.mem_of_getElem? (i := 2) rfl) (by decide +kernel) boot_int (sA_cons (sE_var (i := 2) rfl (by decide +kernel)) sA_nil)) (sE_var (i := 3) rfl (by decide +kernel))) (swap_by (by kernel_rfl)))))) (sB_one (sS_ret (sE_tup (sA_cons (sE_bin s_fdv (sE_var (i := 0) rfl (by decide +kernel)) (sE_var (i := 2) rfl (by decide +kernel))) (sA_cons (sE_bin s_fdv (sE_var (i := 1) rfl (by decide +kernel)) (sE_var (i := 2) rfl (by decide +kernel))) sA_nil))))))))
abbrev st__law_add : Stmt := top 40
def N__law_add : List Str := ["one", "other"]
theorem sc__law_add : FnScope N__law_add ["one", "other"] (defScope st__law_add) := ⟨rfl, rfl, rfl, by decide +kernel, rfl, by decide +kernel, by decide +kernel⟩
noncomputable def b__law_add (Φ : Phi) : Ex := (sRet (cCall Φ "_law_fr" (aCons (cBin oAdd (cBin oMul (cBin oIx (cVar 0) (cC (.int (0)))) (cBin oIx (cVar 1) (cC (.int (1))))) (cBin oMul (cBin oIx (cVar 1) (cC (.int (0)))) (cBin oIx (cVar 0) (cC (.int (1)))))) (aCons (cBin oMul (cBin oIx (cVar 0) (cC (.int (1)))) (cBin oIx (cVar 1) (cC (.int (1))))) aNil))))
theorem s__law_add (Φ : Phi) (k : Nat) : SndB (gam Φ k) N__law_add 2 (defScope st__law_add) (defBody st__law_add) (b__law_add Φ) := by
  unfold b__law_add
  exact (sB_one (sS_ret (sE_call (f := "_law_fr") (List.mem_of_getElem? (i := 29) rfl) (by decide +kernel) (sA_cons (sE_bin s_add (sE_bin s_mul (sE_ix ix_any (sE_var (i := 0) rfl (by decide +kernel)) sE_int) (sE_ix ix_any (sE_var (i := 1) rfl (by decide +kernel)) sE_int)) (sE_bin s_mul (sE_ix ix_any (sE_var (i := 1) rfl (by decide +kernel)) sE_int) (sE_ix ix_any (sE_var (i := 0) rfl (by decide +kernel)) sE_int))) (sA_cons (sE_bin s_mul (sE_ix ix_any (sE_var (i := 0) rfl (by decide +kernel)) sE_int) (sE_ix ix_any (sE_var (i := 1) rfl (by decide +kernel)) sE_int)) sA_nil)))))
abbrev st__law_lot : Stmt := top 41
def N__law_lot : List Str := ["state", "many", "most", "lot", "k", "spot", "j"]
theorem sc__law_lot : FnScope N__law_lot ["state", "many", "most"] (defScope st__law_lot) := ⟨rfl, rfl, rfl, by decide +kernel, rfl, by decide +kernel, by decide +kernel⟩
noncomputable def b__law_lot (Φ : Phi) : Ex := (bSeq (sSet 3 3 (cBin oMul (cLst (aCons (cC (.int (0))) aNil)) (cVar 1))) (bSeq (sFor (iRng (aCons (cCall Φ "_law_take" (aCons (cVar 0) (aCons (cBin oAdd (cVar 2) (cC (.int (1)))) aNil))) aNil)) (tName 3 4) (bSeq (sSet 3 5 (cCall Φ "_law_take" (aCons (cVar 0) (aCons (cVar 1) aNil)))) (sSet 3 3 (cLc [6] (iRng (aCons (cVar 1) aNil)) (tName 0 6) cYes (cBin oAdd (cBin oIx (cVar 3) (cVar 6)) (cB bInt (aCons (cBin oEqq (cVar 6) (cVar 5)) aNil))))))) (sRet (cB bTup (aCons (cVar 3) aNil)))))
theorem s__law_lot (Φ : Phi) (k : Nat) : SndB (gam Φ k) N__law_lot 3 (defScope st__law_lot) (defBody st__law_lot) (b__law_lot Φ) := by
  unfold b__law_lot
  exact (sB_cons (sS_set (i := 3) rfl (by decide +kernel) (sE_bin s_mul (sE_lst (sA_cons sE_int sA_nil)) (sE_var (i := 1) rfl (by decide +kernel)))) (sB_cons (sS_for (sI_rng1 (List.mem_of_getElem? (i := 10) rfl) (by decide +kernel) (sA_cons (sE_call (f := "_law_take") (List.mem_of_getElem? (i := 28) rfl) (by decide +kernel) (sA_cons (sE_var (i := 0) rfl (by decide +kernel)) (sA_cons (sE_bin s_add (sE_var (i := 2) rfl (by decide +kernel)) sE_int) sA_nil))) sA_nil)) (sG_name (i := 4) rfl (by decide +kernel)) (sB_cons (sS_set (i := 5) rfl (by decide +kernel) (sE_call (f := "_law_take") (List.mem_of_getElem? (i := 28) rfl) (by decide +kernel) (sA_cons (sE_var (i := 0) rfl (by decide +kernel)) (sA_cons (sE_var (i := 1) rfl (by decide +kernel)) sA_nil)))) (sB_one (sS_set (i := 3) rfl (by decide +kernel) (sE_lc (own := [("j", 6)]) (sI_rng1 (List.mem_of_getElem? (i := 10) rfl) (by decide +kernel) (sA_cons (sE_var (i := 1) rfl (by decide +kernel)) sA_nil)) (by decide +kernel) rfl (sG_name (i := 6) rfl (by decide +kernel)) (by decide) sF_nil (sE_bin s_add (sE_ix ix_any (sE_var (i := 3) rfl (by decide +kernel)) (sE_var (i := 6) rfl (by decide +kernel))) (sE_ty (x := "int") cb_int (List.mem_of_getElem? (i := 2) rfl) (by decide +kernel) boot_int (sA_cons (sE_cmp s_eqq (sE_var (i := 6) rfl (by decide +kernel)) (sE_var (i := 5) rfl (by decide +kernel)) (by rfl)) sA_nil)))) (swaps_by (by kernel_rfl)))))) (sB_one (sS_ret (sE_ty (x := "tuple") cb_tup (List.mem_of_getElem? (i := 6) rfl) (by decide +kernel) boot_tuple (sA_cons (sE_var (i := 3) rfl (by decide +kernel)) sA_nil))))))
abbrev st__law_litters : Stmt := top 42
def N__law_litters : List Str := ["state", "many", "most", "lots", "k", "lot", "loads"]
theorem sc__law_litters : FnScope N__law_litters ["state", "many", "most"] (defScope st__law_litters) := ⟨rfl, rfl, rfl, by decide +kernel, rfl, by decide +kernel, by decide +kernel⟩
noncomputable def b__law_litters (Φ : Phi) : Ex := (bSeq (sSet 3 3 (cLst aNil)) (bSeq (sFor (iRng (aCons (cBin oAdd (cC (.int (1))) (cCall Φ "_law_take" (aCons (cVar 0) (aCons (cC (.int (4))) aNil)))) aNil)) (tName 3 4) (bSeq (sSet 3 5 (cCall Φ "_law_lot" (aCons (cVar 0) (aCons (cVar 1) (aCons (cVar 2) aNil))))) (sSet 3 3 (cIfE (cTst (cBin oIn (cVar 5) (cVar 3))) (cVar 3) (cBin oAdd (cVar 3) (cLst (aCons (cVar 5) aNil))))))) (bSeq (sIf (cAndB (cTst (cBin oGt (cCall Φ "_law_take" (aCons (cVar 0) (aCons (cC (.int (3))) aNil))) (cC (.int (0))))) (cTst (cBin oNotIn (cBin oMul (cTup (aCons (cC (.int (0))) aNil)) (cVar 1)) (cVar 3)))) (sSet 3 3 (cBin oAdd (cVar 3) (cLst (aCons (cBin oMul (cTup (aCons (cC (.int (0))) aNil)) (cVar 1)) aNil)))) bNil) (bSeq (sSet 3 6 (cLc [5] (iSeq (cVar 3)) (tName 0 5) cYes (cBin oAdd (cC (.int (1))) (cCall Φ "_law_take" (aCons (cVar 0) (aCons (cC (.int (5))) aNil)))))) (sRet (cCall Φ "_law_ordered" (aCons (cVar 3) (aCons (cVar 6) aNil))))))))
theorem s__law_litters (Φ : Phi) (k : Nat) : SndB (gam Φ k) N__law_litters 3 (defScope st__law_litters) (defBody st__law_litters) (b__law_litters Φ) := by
  unfold b__law_litters
  exact (sB_cons (sS_set (i := 3) rfl (by decide +kernel) (sE_lst sA_nil)) (sB_cons (sS_for (sI_rng1 (List.mem_of_getElem? (i := 10) rfl) (by decide +kernel) (sA_cons (sE_bin s_add sE_int (sE_call (f := "_law_take") (List.mem_of_getElem? (i := 28) rfl) (by decide +kernel) (sA_cons (sE_var (i := 0) rfl (by decide +kernel)) (sA_cons sE_int sA_nil)))) sA_nil)) (sG_name (i := 4) rfl (by decide +kernel)) (sB_cons (sS_set (i := 5) rfl (by decide +kernel) (sE_call (f := "_law_lot") (List.mem_of_getElem? (i := 31) rfl) (by decide +kernel) (sA_cons (sE_var (i := 0) rfl (by decide +kernel)) (sA_cons (sE_var (i := 1) rfl (by decide +kernel)) (sA_cons (sE_var (i := 2) rfl (by decide +kernel)) sA_nil))))) (sB_one (sS_set (i := 3) rfl (by decide +kernel) (sE_ifExp (sT_cmp s_in (sE_var (i := 5) rfl (by decide +kernel)) (sE_var (i := 3) rfl (by decide +kernel)) (by rfl)) (sE_var (i := 3) rfl (by decide +kernel)) (sE_bin s_add (sE_var (i := 3) rfl (by decide +kernel)) (sE_lst (sA_cons (sE_var (i := 5) rfl (by decide +kernel)) sA_nil)))))))) (sB_cons (sS_if (SndW.t (sW_and (sT_cmp s_gt (sE_call (f := "_law_take") (List.mem_of_getElem? (i := 28) rfl) (by decide +kernel) (sA_cons (sE_var (i := 0) rfl (by decide +kernel)) (sA_cons sE_int sA_nil))) sE_int (by rfl)) (sW_and1 (sT_cmp s_notIn (sE_bin s_mul (sE_tup (sA_cons sE_int sA_nil)) (sE_var (i := 1) rfl (by decide +kernel))) (sE_var (i := 3) rfl (by decide +kernel)) (by rfl))))) (sB_one (sS_set (i := 3) rfl (by decide +kernel) (sE_bin s_add (sE_var (i := 3) rfl (by decide +kernel)) (sE_lst (sA_cons (sE_bin s_mul (sE_tup (sA_cons sE_int sA_nil)) (sE_var (i := 1) rfl (by decide +kernel))) sA_nil))))) sB_nil) (sB_cons (sS_setLc (i := 6) (own := [("lot", 5)]) rfl (by kernel_rfl) (by kernel_rfl) (by rfl) (by decide +kernel) (sI_seq (sE_var (i := 3) rfl (by decide +kernel))) (by decide +kernel) rfl (sG_name (i := 5) rfl (by decide +kernel)) (by decide) sF_nil (sE_bin s_add sE_int (sE_call (f := "_law_take") (List.mem_of_getElem? (i := 28) rfl) (by decide +kernel) (sA_cons (sE_var (i := 0) rfl (by decide +kernel)) (sA_cons sE_int sA_nil))))) (sB_one (sS_ret (sE_call (f := "_law_ordered") (List.mem_of_getElem? (i := 33) rfl) (by decide +kernel) (sA_cons (sE_var (i := 3) rfl (by decide +kernel)) (sA_cons (sE_var (i := 6) rfl (by decide +kernel)) sA_nil)))))))))
abbrev st__law_ordered : Stmt := top 43
def N__law_ordered : List Str := ["lots", "loads", "rows", "k", "lot", "load"]
theorem sc__law_ordered : FnScope N__law_ordered ["lots", "loads"] (defScope st__law_ordered) := ⟨rfl, rfl, rfl, by decide +kernel, rfl, by decide +kernel, by decide +kernel⟩
noncomputable def b__law_ordered (Φ : Phi) : Ex := (bSeq (sSet 2 2 (cB (bSorted false) (aCons (cLc [3] (iRng (aCons (cB bLen (aCons (cVar 0) aNil)) aNil)) (tName 0 3) cYes (cTup (aCons (cBin oIx (cVar 0) (cVar 3)) (aCons (cBin oIx (cVar 1) (cVar 3)) aNil)))) aNil))) (sRet (cB bTup (aCons (cLc [4, 5] (iSeq (cVar 2)) (tPair 0 4 5) cYes (cTup (aCons (cVar 4) (aCons (cCall Φ "_law_fr" (aCons (cVar 5) (aCons (cB bSum (aCons (cVar 1) aNil)) aNil))) aNil)))) aNil))))
theorem s__law_ordered (Φ : Phi) (k : Nat) : SndB (gam Φ k) N__law_ordered 2 (defScope st__law_ordered) (defBody st__law_ordered) (b__law_ordered Φ) := by
  unfold b__law_ordered
  exact (sB_cons (sS_set (i := 2) rfl (by decide +kernel) (sE_blt (x := "sorted") (cb_sorted (own := false)) (List.mem_of_getElem? (i := 8) rfl) (by decide +kernel) boot_sorted (sA_cons (sE_lc (own := [("k", 3)]) (sI_rng1 (List.mem_of_getElem? (i := 10) rfl) (by decide +kernel) (sA_cons (sE_blt (x := "len") cb_len (List.mem_of_getElem? (i := 0) rfl) (by decide +kernel) boot_len (sA_cons (sE_var (i := 0) rfl (by decide +kernel)) sA_nil)) sA_nil)) (by decide +kernel) rfl (sG_name (i := 3) rfl (by decide +kernel)) (by decide) sF_nil (sE_tup (sA_cons (sE_ix ix_any (sE_var (i := 0) rfl (by decide +kernel)) (sE_var (i := 3) rfl (by decide +kernel))) (sA_cons (sE_ix ix_any (sE_var (i := 1) rfl (by decide +kernel)) (sE_var (i := 3) rfl (by decide +kernel))) sA_nil)))) sA_nil))) (sB_one (sS_ret (sE_ty (x := "tuple") cb_tup (List.mem_of_getElem? (i := 6) rfl) (by decide +kernel) boot_tuple (sA_cons (sE_lc (own := [("lot", 4), ("load", 5)]) (sI_seq (sE_var (i := 2) rfl (by decide +kernel))) (by decide +kernel) rfl (sG_pair (i := 4) (j := 5) rfl (by decide +kernel) rfl (by decide +kernel)) (by decide) sF_nil (sE_tup (sA_cons (sE_var (i := 4) rfl (by decide +kernel)) (sA_cons (sE_call (f := "_law_fr") (List.mem_of_getElem? (i := 29) rfl) (by decide +kernel) (sA_cons (sE_var (i := 5) rfl (by decide +kernel)) (sA_cons (sE_blt (x := "sum") cb_sum (List.mem_of_getElem? (i := 3) rfl) (by decide +kernel) boot_sum (sA_cons (sE_var (i := 1) rfl (by decide +kernel)) sA_nil)) sA_nil))) sA_nil)))) sA_nil)))))
abbrev st__law_book : Stmt := top 44
def N__law_book : List Str := ["state", "most", "many", "litters", "k", "start"]
theorem sc__law_book : FnScope N__law_book ["state", "most"] (defScope st__law_book) := ⟨rfl, rfl, rfl, by decide +kernel, rfl, by decide +kernel, by decide +kernel⟩
noncomputable def b__law_book (Φ : Phi) : Ex := (bSeq (sSet 2 2 (cBin oAdd (cC (.int (1))) (cCall Φ "_law_take" (aCons (cVar 0) (aCons (cC (.int (3))) aNil))))) (bSeq (sSet 2 3 (cB bTup (aCons (cLc [4] (iRng (aCons (cVar 2) aNil)) (tName 0 4) cYes (cCall Φ "_law_litters" (aCons (cVar 0) (aCons (cVar 2) (aCons (cVar 1) aNil))))) aNil))) (bSeq (sSet 2 5 (cCall Φ "_law_lot" (aCons (cVar 0) (aCons (cVar 2) (aCons (cC (.int (3))) aNil))))) (sRet (cTup (aCons (cC (.str (Str.ofString "book"))) (aCons (cSl (cTup (aCons (cC (.str (Str.ofString "a"))) (aCons (cC (.str (Str.ofString "b"))) (aCons (cC (.str (Str.ofString "c"))) aNil)))) oNone (oSome (cVar 2))) (aCons (cVar 3) (aCons (cVar 5) aNil)))))))))
theorem s__law_book (Φ : Phi) (k : Nat) : SndB (gam Φ k) N__law_book 2 (defScope st__law_book) (defBody st__law_book) (b__law_book Φ) := by
  unfold b__law_book
  exact (sB_cons (sS_set (i := 2) rfl (by decide +kernel) (sE_bin s_add sE_int (sE_call (f := "_law_take") (List.mem_of_getElem? (i := 28) rfl) (by decide +kernel) (sA_cons (sE_var (i := 0) rfl (by decide +kernel)) (sA_cons sE_int sA_nil))))) (sB_cons (sS_set (i := 3) rfl (by decide +kernel) (sE_ty (x := "tuple") cb_tup (List.mem_of_getElem? (i := 6) rfl) (by decide +kernel) boot_tuple (sA_cons (sE_lc (own := [("k", 4)]) (sI_rng1 (List.mem_of_getElem? (i := 10) rfl) (by decide +kernel) (sA_cons (sE_var (i := 2) rfl (by decide +kernel)) sA_nil)) (by decide +kernel) rfl (sG_name (i := 4) rfl (by decide +kernel)) (by decide) sF_nil (sE_call (f := "_law_litters") (List.mem_of_getElem? (i := 32) rfl) (by decide +kernel) (sA_cons (sE_var (i := 0) rfl (by decide +kernel)) (sA_cons (sE_var (i := 2) rfl (by decide +kernel)) (sA_cons (sE_var (i := 1) rfl (by decide +kernel)) sA_nil))))) sA_nil))) (sB_cons (sS_set (i := 5) rfl (by decide +kernel) (sE_call (f := "_law_lot") (List.mem_of_getElem? (i := 31) rfl) (by decide +kernel) (sA_cons (sE_var (i := 0) rfl (by decide +kernel)) (sA_cons (sE_var (i := 2) rfl (by decide +kernel)) (sA_cons sE_int sA_nil))))) (sB_one (sS_ret (sE_tup (sA_cons (sE_str (by decide +kernel)) (sA_cons (sE_sl (sE_tup (sA_cons (sE_str (by decide +kernel)) (sA_cons (sE_str (by decide +kernel)) (sA_cons (sE_str (by decide +kernel)) sA_nil)))) sO_none (sO_some (sE_var (i := 2) rfl (by decide +kernel)))) (sA_cons (sE_var (i := 3) rfl (by decide +kernel)) (sA_cons (sE_var (i := 5) rfl (by decide +kernel)) sA_nil))))))))))
abbrev st__law_comes : Stmt := top 45
def N__law_comes : List Str := ["book", "kinds", "found", "turn", "j", "k", "lot", "chance"]
theorem sc__law_comes : FnScope N__law_comes ["book", "kinds"] (defScope st__law_comes) := ⟨rfl, rfl, rfl, by decide +kernel, rfl, by decide +kernel, by decide +kernel⟩
noncomputable def b__law_comes (Φ : Phi) : Ex := (bSeq (sSet 2 2 (cSS false (cVar 1))) (bSeq (sFor (iRng (aCons (cB bLen (aCons (cBin oIx (cVar 0) (cC (.int (1)))) aNil)) aNil)) (tName 2 3) (sSet 2 2 (cSS false (cBin oAdd (cVar 2) (cLc [4] (iRng (aCons (cB bLen (aCons (cBin oIx (cVar 0) (cC (.int (1)))) aNil)) aNil)) (tName 0 4) (cTst (cBin oGt (cB bLen (aCons (cLc [5] (iSeq (cVar 2)) (tName 0 5) (cTst (cBin oGt (cB bLen (aCons (cLc [6, 7] (iSeq (cBin oIx (cBin oIx (cVar 0) (cC (.int (2)))) (cVar 5))) (tPair 0 6 7) (cTst (cBin oGt (cBin oIx (cVar 6) (cVar 4)) (cC (.int (0))))) (cC (.int (1)))) aNil)) (cC (.int (0))))) (cVar 5)) aNil)) (cC (.int (0))))) (cVar 4)))))) (sRet (cVar 2))))
theorem s__law_comes (Φ : Phi) (k : Nat) : SndB (gam Φ k) N__law_comes 2 (defScope st__law_comes) (defBody st__law_comes) (b__law_comes Φ) := by
  unfold b__law_comes
  exact (sB_cons (sS_set (i := 2) rfl (by decide +kernel) (sE_ss (own := false) (List.mem_of_getElem? (i := 8) rfl) (List.mem_of_getElem? (i := 9) rfl) (by decide +kernel) (by decide +kernel) (sE_var (i := 1) rfl (by decide +kernel)))) (sB_cons (sS_for (sI_rng1 (List.mem_of_getElem? (i := 10) rfl) (by decide +kernel) (sA_cons (sE_blt (x := "len") cb_len (List.mem_of_getElem? (i := 0) rfl) (by decide +kernel) boot_len (sA_cons (sE_ix ix_any (sE_var (i := 0) rfl (by decide +kernel)) sE_int) sA_nil)) sA_nil)) (sG_name (i := 3) rfl (by decide +kernel)) (sB_one (sS_set (i := 2) rfl (by decide +kernel) (sE_ss (own := false) (List.mem_of_getElem? (i := 8) rfl) (List.mem_of_getElem? (i := 9) rfl) (by decide +kernel) (by decide +kernel) (sE_bin s_add (sE_var (i := 2) rfl (by decide +kernel)) (sE_lc (own := [("j", 4)]) (sI_rng1 (List.mem_of_getElem? (i := 10) rfl) (by decide +kernel) (sA_cons (sE_blt (x := "len") cb_len (List.mem_of_getElem? (i := 0) rfl) (by decide +kernel) boot_len (sA_cons (sE_ix ix_any (sE_var (i := 0) rfl (by decide +kernel)) sE_int) sA_nil)) sA_nil)) (by decide +kernel) rfl (sG_name (i := 4) rfl (by decide +kernel)) (by decide) (sF_one (sT_cmp s_gt (sE_blt (x := "len") cb_len (List.mem_of_getElem? (i := 0) rfl) (by decide +kernel) boot_len (sA_cons (sE_lc (own := [("k", 5)]) (sI_seq (sE_var (i := 2) rfl (by decide +kernel))) (by decide +kernel) rfl (sG_name (i := 5) rfl (by decide +kernel)) (by decide) (sF_one (sT_cmp s_gt (sE_blt (x := "len") cb_len (List.mem_of_getElem? (i := 0) rfl) (by decide +kernel) boot_len (sA_cons (sE_lc (own := [("lot", 6), ("chance", 7)]) (sI_seq (sE_ix ix_any (sE_ix ix_any (sE_var (i := 0) rfl (by decide +kernel)) sE_int) (sE_var (i := 5) rfl (by decide +kernel)))) (by decide +kernel) rfl (sG_pair (i := 6) (j := 7) rfl (by decide +kernel) rfl (by decide +kernel)) (by decide) (sF_one (sT_cmp s_gt (sE_ix ix_any (sE_var (i := 6) rfl (by decide +kernel)) (sE_var (i := 4) rfl (by decide +kernel))) sE_int (by rfl))) sE_int) sA_nil)) sE_int (by rfl))) (sE_var (i := 5) rfl (by decide +kernel))) sA_nil)) sE_int (by rfl))) (sE_var (i := 4) rfl (by decide +kernel)))))))) (sB_one (sS_ret (sE_var (i := 2) rfl (by decide +kernel))))))
abbrev st__law_lots : Stmt := top 46
def N__law_lots : List Str := ["book", "told", "found", "k", "lot", "j"]
theorem sc__law_lots : FnScope N__law_lots ["book"] (defScope st__law_lots) := ⟨rfl, rfl, rfl, by decide +kernel, rfl, by decide +kernel, by decide +kernel⟩
noncomputable def b__law_lots (Φ : Phi) : Ex := (bSeq (sPar 1 1 2 (cLc [3] (iRng (aCons (cB bLen (aCons (cBin oIx (cVar 0) (cC (.int (1)))) aNil)) aNil)) (tName 0 3) cYes (cCall Φ "_law_comes" (aCons (cVar 0) (aCons (cLst (aCons (cVar 3) aNil)) aNil)))) (cNl aNil)) (bSeq (sFor (iRng (aCons (cB bLen (aCons (cBin oIx (cVar 0) (cC (.int (1)))) aNil)) aNil)) (tName 1 3) (sIf (cTst (cBin oEqq (cB bLen (aCons (cLcG 2 [4] (tName 0 4) (cTst (cBin oIn (cVar 3) (cVar 4))) (cC (.int (1)))) aNil)) (cC (.int (0))))) (sDrop (cApp 2 (cLc [5] (iSeq (cBin oIx (cVar 1) (cVar 3))) (tName 0 5) (cTst (cBin oIn (cVar 3) (cBin oIx (cVar 1) (cVar 5)))) (cVar 5)))) bNil)) (sRetM (cVar 2))))
theorem s__law_lots (Φ : Phi) (k : Nat) : SndB (gam Φ k) N__law_lots 1 (defScope st__law_lots) (defBody st__law_lots) (b__law_lots Φ) := by
  unfold b__law_lots
  exact (sB_cons (sS_parT (i := 1) (j := 2) rfl rfl (by decide +kernel) (by decide +kernel) (sE_lc (own := [("k", 3)]) (sI_rng1 (List.mem_of_getElem? (i := 10) rfl) (by decide +kernel) (sA_cons (sE_blt (x := "len") cb_len (List.mem_of_getElem? (i := 0) rfl) (by decide +kernel) boot_len (sA_cons (sE_ix ix_any (sE_var (i := 0) rfl (by decide +kernel)) sE_int) sA_nil)) sA_nil)) (by decide +kernel) rfl (sG_name (i := 3) rfl (by decide +kernel)) (by decide) sF_nil (sE_call (f := "_law_comes") (List.mem_of_getElem? (i := 35) rfl) (by decide +kernel) (sA_cons (sE_var (i := 0) rfl (by decide +kernel)) (sA_cons (sE_lst (sA_cons (sE_var (i := 3) rfl (by decide +kernel)) sA_nil)) sA_nil)))) (sE_nl sA_nil) (swap_by (by kernel_rfl))) (sB_cons (sS_for (sI_rng1 (List.mem_of_getElem? (i := 10) rfl) (by decide +kernel) (sA_cons (sE_blt (x := "len") cb_len (List.mem_of_getElem? (i := 0) rfl) (by decide +kernel) boot_len (sA_cons (sE_ix ix_any (sE_var (i := 0) rfl (by decide +kernel)) sE_int) sA_nil)) sA_nil)) (sG_name (i := 3) rfl (by decide +kernel)) (sB_one (sS_if (sT_cmp s_eqq (sE_blt (x := "len") cb_len (List.mem_of_getElem? (i := 0) rfl) (by decide +kernel) boot_len (sA_cons (sE_lcG (k := 2) (own := [("lot", 4)]) rfl (by decide +kernel) (by decide +kernel) rfl (sG_name (i := 4) rfl (by decide +kernel)) (by decide) (sF_one (sT_cmp s_in (sE_var (i := 3) rfl (by decide +kernel)) (sE_var (i := 4) rfl (by decide +kernel)) (by rfl))) sE_int) sA_nil)) sE_int (by rfl)) (sB_one (sS_expr (sE_app (i := 2) rfl (by decide +kernel) (sE_lc (own := [("j", 5)]) (sI_seq (sE_ix ix_any (sE_var (i := 1) rfl (by decide +kernel)) (sE_var (i := 3) rfl (by decide +kernel)))) (by decide +kernel) rfl (sG_name (i := 5) rfl (by decide +kernel)) (by decide) (sF_one (sT_cmp s_in (sE_var (i := 3) rfl (by decide +kernel)) (sE_ix ix_any (sE_var (i := 1) rfl (by decide +kernel)) (sE_var (i := 5) rfl (by decide +kernel))) (by rfl))) (sE_var (i := 5) rfl (by decide +kernel)))))) sB_nil))) (sB_one (sS_retM (sE_var (i := 2) rfl (by decide +kernel))))))
abbrev st__law_turns_back : Stmt := top 47
def N__law_turns_back : List Str := ["book", "lot", "many", "k", "row", "j"]
theorem sc__law_turns_back : FnScope N__law_turns_back ["book", "lot"] (defScope st__law_turns_back) := ⟨rfl, rfl, rfl, by decide +kernel, rfl, by decide +kernel, by decide +kernel⟩
noncomputable def b__law_turns_back (Φ : Phi) : Ex := (bSeq (sSet 2 2 (cC (.int (0)))) (bSeq (sFor (iSeq (cVar 1)) (tName 2 3) (sSet 2 2 (cBin oAdd (cVar 2) (cB bLen (aCons (cLc [4] (iSeq (cBin oIx (cBin oIx (cVar 0) (cC (.int (2)))) (cVar 3))) (tName 0 4) (cTst (cBin oGt (cB bSum (aCons (cLc [5] (iSeq (cVar 1)) (tName 0 5) cYes (cBin oIx (cBin oIx (cVar 4) (cC (.int (0)))) (cVar 5))) aNil)) (cC (.int (0))))) (cVar 4)) aNil))))) (sRet (cVar 2))))
theorem s__law_turns_back (Φ : Phi) (k : Nat) : SndB (gam Φ k) N__law_turns_back 2 (defScope st__law_turns_back) (defBody st__law_turns_back) (b__law_turns_back Φ) := by
  unfold b__law_turns_back
  exact (sB_cons (sS_set (i := 2) rfl (by decide +kernel) sE_int) (sB_cons (sS_for (sI_seq (sE_var (i := 1) rfl (by decide +kernel))) (sG_name (i := 3) rfl (by decide +kernel)) (sB_one (sS_set (i := 2) rfl (by decide +kernel) (sE_bin s_add (sE_var (i := 2) rfl (by decide +kernel)) (sE_blt (x := "len") cb_len (List.mem_of_getElem? (i := 0) rfl) (by decide +kernel) boot_len (sA_cons (sE_lc (own := [("row", 4)]) (sI_seq (sE_ix ix_any (sE_ix ix_any (sE_var (i := 0) rfl (by decide +kernel)) sE_int) (sE_var (i := 3) rfl (by decide +kernel)))) (by decide +kernel) rfl (sG_name (i := 4) rfl (by decide +kernel)) (by decide) (sF_one (sT_cmp s_gt (sE_blt (x := "sum") cb_sum (List.mem_of_getElem? (i := 3) rfl) (by decide +kernel) boot_sum (sA_cons (sE_lc (own := [("j", 5)]) (sI_seq (sE_var (i := 1) rfl (by decide +kernel))) (by decide +kernel) rfl (sG_name (i := 5) rfl (by decide +kernel)) (by decide) sF_nil (sE_ix ix_any (sE_ix ix_any (sE_var (i := 4) rfl (by decide +kernel)) sE_int) (sE_var (i := 5) rfl (by decide +kernel)))) sA_nil)) sE_int (by rfl))) (sE_var (i := 4) rfl (by decide +kernel))) sA_nil)))))) (sB_one (sS_ret (sE_var (i := 2) rfl (by decide +kernel))))))
abbrev st__law_odd : Stmt := top 48
def N__law_odd : List Str := ["book", "lot", "many", "k", "row", "j"]
theorem sc__law_odd : FnScope N__law_odd ["book", "lot"] (defScope st__law_odd) := ⟨rfl, rfl, rfl, by decide +kernel, rfl, by decide +kernel, by decide +kernel⟩
noncomputable def b__law_odd (Φ : Phi) : Ex := (bSeq (sSet 2 2 (cC (.int (0)))) (bSeq (sFor (iSeq (cVar 1)) (tName 2 3) (sSet 2 2 (cBin oAdd (cVar 2) (cB bLen (aCons (cLc [4] (iSeq (cBin oIx (cBin oIx (cVar 0) (cC (.int (2)))) (cVar 3))) (tName 0 4) (cTst (cBin oNee (cB bSum (aCons (cLc [5] (iSeq (cVar 1)) (tName 0 5) cYes (cBin oIx (cBin oIx (cVar 4) (cC (.int (0)))) (cVar 5))) aNil)) (cC (.int (1))))) (cVar 4)) aNil))))) (sRet (cVar 2))))
theorem s__law_odd (Φ : Phi) (k : Nat) : SndB (gam Φ k) N__law_odd 2 (defScope st__law_odd) (defBody st__law_odd) (b__law_odd Φ) := by
  unfold b__law_odd
  exact (sB_cons (sS_set (i := 2) rfl (by decide +kernel) sE_int) (sB_cons (sS_for (sI_seq (sE_var (i := 1) rfl (by decide +kernel))) (sG_name (i := 3) rfl (by decide +kernel)) (sB_one (sS_set (i := 2) rfl (by decide +kernel) (sE_bin s_add (sE_var (i := 2) rfl (by decide +kernel)) (sE_blt (x := "len") cb_len (List.mem_of_getElem? (i := 0) rfl) (by decide +kernel) boot_len (sA_cons (sE_lc (own := [("row", 4)]) (sI_seq (sE_ix ix_any (sE_ix ix_any (sE_var (i := 0) rfl (by decide +kernel)) sE_int) (sE_var (i := 3) rfl (by decide +kernel)))) (by decide +kernel) rfl (sG_name (i := 4) rfl (by decide +kernel)) (by decide) (sF_one (sT_cmp s_nee (sE_blt (x := "sum") cb_sum (List.mem_of_getElem? (i := 3) rfl) (by decide +kernel) boot_sum (sA_cons (sE_lc (own := [("j", 5)]) (sI_seq (sE_var (i := 1) rfl (by decide +kernel))) (by decide +kernel) rfl (sG_name (i := 5) rfl (by decide +kernel)) (by decide) sF_nil (sE_ix ix_any (sE_ix ix_any (sE_var (i := 4) rfl (by decide +kernel)) sE_int) (sE_var (i := 5) rfl (by decide +kernel)))) sA_nil)) sE_int (by rfl))) (sE_var (i := 4) rfl (by decide +kernel))) sA_nil)))))) (sB_one (sS_ret (sE_var (i := 2) rfl (by decide +kernel))))))
abbrev st__law_rows : Stmt := top 49
def N__law_rows : List Str := ["book", "lot", "k"]
theorem sc__law_rows : FnScope N__law_rows ["book", "lot"] (defScope st__law_rows) := ⟨rfl, rfl, rfl, by decide +kernel, rfl, by decide +kernel, by decide +kernel⟩
noncomputable def b__law_rows (Φ : Phi) : Ex := (sRet (cB bSum (aCons (cLc [2] (iSeq (cVar 1)) (tName 0 2) cYes (cB bLen (aCons (cBin oIx (cBin oIx (cVar 0) (cC (.int (2)))) (cVar 2)) aNil))) aNil)))
theorem s__law_rows (Φ : Phi) (k : Nat) : SndB (gam Φ k) N__law_rows 2 (defScope st__law_rows) (defBody st__law_rows) (b__law_rows Φ) := by
  unfold b__law_rows
  exact (sB_one (sS_ret (sE_blt (x := "sum") cb_sum (List.mem_of_getElem? (i := 3) rfl) (by decide +kernel) boot_sum (sA_cons (sE_lc (own := [("k", 2)]) (sI_seq (sE_var (i := 1) rfl (by decide +kernel))) (by decide +kernel) rfl (sG_name (i := 2) rfl (by decide +kernel)) (by decide) sF_nil (sE_blt (x := "len") cb_len (List.mem_of_getElem? (i := 0) rfl) (by decide +kernel) boot_len (sA_cons (sE_ix ix_any (sE_ix ix_any (sE_var (i := 0) rfl (by decide +kernel)) sE_int) (sE_var (i := 2) rfl (by decide +kernel))) sA_nil))) sA_nil))))
abbrev st__law_ends : Stmt := top 50
def N__law_ends : List Str := ["book", "every", "gone", "due", "step", "turn", "fresh", "k", "lot", "chance", "j", "told", "never", "lots", "holds", "value"]
theorem sc__law_ends : FnScope N__law_ends ["book", "every"] (defScope st__law_ends) := ⟨rfl, rfl, rfl, by decide +kernel, rfl, by decide +kernel, by decide +kernel⟩
noncomputable def b__law_ends (Φ : Phi) : Ex := (bSeq (sPar3 2 2 3 4 (cLst aNil) cNk (cC (.int (0)))) (bSeq (sFor (iSeq (cVar 1)) (tName 2 5) (bSeq (sSet 2 4 (cBin oAdd (cVar 4) (cC (.int (1))))) (bSeq (sSet 2 6 (cLc [7] (iSeq (cVar 1)) (tName 0 7) (cAndB (cTst (cBin oNotIn (cVar 7) (cVar 2))) (cTst (cBin oGt (cB bLen (aCons (cLc [8, 9] (iSeq (cBin oIx (cBin oIx (cVar 0) (cC (.int (2)))) (cVar 7))) (tPair 0 8 9) (cTst (cBin oEqq (cB bLen (aCons (cLc [10] (iSeq (cVar 1)) (tName 0 10) (cAndB (cTst (cBin oGt (cBin oIx (cVar 8) (cVar 10)) (cC (.int (0))))) (cTst (cBin oNotIn (cVar 10) (cVar 2)))) (cC (.int (1)))) aNil)) (cC (.int (0))))) (cC (.int (1)))) aNil)) (cC (.int (0)))))) (cVar 7))) (bSeq (sFor (iSeq (cVar 6)) (tName 2 7) (sPut 3 (cVar 7) (cVar 4))) (sSet 2 2 (cBin oAdd (cVar 2) (cVar 6))))))) (bSeq (sSet 2 11 (cCall Φ "can_end" (aCons (cVar 0) aNil))) (bSeq (sSet 2 12 (cLc [7] (iSeq (cVar 1)) (tName 0 7) (cTst (cBin oNotIn (cVar 7) (cVar 3))) (cVar 7))) (bSeq (sIf (cOrB (cTst (cBin oNee (cVar 11) (cVar 3))) (cOrB (cTst (cBin oNee (cB bList (aCons (cVar 11) aNil)) (cB bList (aCons (cVar 3) aNil)))) (cOrB (cTst (cBin oNee (cCall Φ "endless" (aCons (cVar 0) aNil)) (cVar 12))) (cTst (cBin oNee (cLc [7] (iSeq (cVar 1)) (tName 0 7) cYes (cCall Φ "ends_by" (aCons (cVar 0) (aCons (cVar 7) (aCons (cVar 11) aNil))))) (cLc [7] (iSeq (cVar 1)) (tName 0 7) cYes (cBin oIn (cVar 7) (cVar 3)))))))) (sRet (cC (.bool false))) bNil) (bSeq (sSet 2 13 (cLst (aCons (cTup aNil) aNil))) (bSeq (sFor (iSeq (cVar 1)) (tName 2 7) (sSet 2 13 (cBin oAdd (cVar 13) (cLc [8] (iSeq (cVar 13)) (tName 0 8) cYes (cBin oAdd (cVar 8) (cTup (aCons (cVar 7) aNil))))))) (bSeq (sFor (iSeq (cVar 13)) (tName 2 8) (bSeq (sSet 2 14 (cBin oEqq (cCall Φ "_law_rows" (aCons (cVar 0) (aCons (cVar 8) aNil))) (cCall Φ "_law_turns_back" (aCons (cVar 0) (aCons (cVar 8) aNil))))) (sFor (iSeq (cVar 1)) (tName 2 7) (sIf (cOrB (cTst (cBin oNee (cCall Φ "accepts_endless" (aCons (cVar 0) (aCons (cVar 7) (aCons (cVar 8) aNil)))) (cAnd (cVar 14) (cBin oIn (cVar 7) (cVar 8))))) (cAndB (cTst (cVar 14)) (cAndB (cTst (cBin oIn (cVar 7) (cVar 8))) (cTst (cBin oNotIn (cVar 7) (cVar 12)))))) (sRet (cC (.bool false))) bNil)))) (bSeq (sFor (iSeq (cTup (aCons (cC .none) (aCons (cB bList (aCons (cVar 12) aNil)) (aCons (cTup (aCons (cC (.int (9))) aNil)) (aCons (cTup (aCons (cC (.bool true)) aNil)) (aCons (cTup (aCons (cC (.str (Str.ofString "a"))) aNil)) aNil))))))) (tName 2 15) (sIf (cTst (cBin oNee (cLc [7] (iSeq (cVar 1)) (tName 0 7) cYes (cCall Φ "accepts_endless" (aCons (cVar 0) (aCons (cVar 7) (aCons (cVar 15) aNil))))) (cBin oMul (cLst (aCons (cC (.bool false)) aNil)) (cB bLen (aCons (cVar 1) aNil))))) (sRet (cC (.bool false))) bNil)) (sRet (cOr (cBin oEqq (cVar 12) (cLst aNil)) (cBin oIs (cCall Φ "accepts_endless" (aCons (cVar 0) (aCons (cBin oIx (cVar 12) (cC (.int (0)))) (aCons (cB bTup (aCons (cVar 12) aNil)) aNil)))) (cC (.bool true))))))))))))))
theorem s__law_ends (Φ : Phi) (k : Nat) : SndB (gam Φ k) N__law_ends 2 (defScope st__law_ends) (defBody st__law_ends) (b__law_ends Φ) := by
  unfold b__law_ends
  exact (sB_cons (sS_par3 (i := 2) (j := 3) (l := 4) rfl rfl rfl (by decide +kernel) (by decide +kernel) (by decide +kernel) (sE_lst sA_nil) sE_nk sE_int (swap_by (by kernel_rfl))) (sB_cons (sS_for (sI_seq (sE_var (i := 1) rfl (by decide +kernel))) (sG_name (i := 5) rfl (by decide +kernel)) (sB_cons (sS_set (i := 4) rfl (by decide +kernel) (sE_bin s_add (sE_var (i := 4) rfl (by decide +kernel)) sE_int)) (sB_cons (sS_setLc (i := 6) (own := [("k", 7)]) rfl (by kernel_rfl) (by kernel_rfl) (by rfl) (by decide +kernel) (sI_seq (sE_var (i := 1) rfl (by decide +kernel))) (by decide +kernel) rfl (sG_name (i := 7) rfl (by decide +kernel)) (by decide) (sF_one (SndW.t (sW_and (sT_cmp s_notIn (sE_var (i := 7) rfl (by decide +kernel)) (sE_var (i := 2) rfl (by decide +kernel)) (by rfl)) (sW_and1 (sT_cmp s_gt (sE_blt (x := "len") cb_len (List.mem_of_getElem? (i := 0) rfl) (by decide +kernel) boot_len (sA_cons (sE_lc (own := [("lot", 8), ("chance", 9)]) (sI_seq (sE_ix ix_any (sE_ix ix_any (sE_var (i := 0) rfl (by decide +kernel)) sE_int) (sE_var (i := 7) rfl (by decide +kernel)))) (by decide +kernel) rfl (sG_pair (i := 8) (j := 9) rfl (by decide +kernel) rfl (by decide +kernel)) (by decide) (sF_one (sT_cmp s_eqq (sE_blt (x := "len") cb_len (List.mem_of_getElem? (i := 0) rfl) (by decide +kernel) boot_len (sA_cons (sE_lc (own := [("j", 10)]) (sI_seq (sE_var (i := 1) rfl (by decide +kernel))) (by decide +kernel) rfl (sG_name (i := 10) rfl (by decide +kernel)) (by decide) (sF_one (SndW.t (sW_and (sT_cmp s_gt (sE_ix ix_any (sE_var (i := 8) rfl (by decide +kernel)) (sE_var (i := 10) rfl (by decide +kernel))) sE_int (by rfl)) (sW_and1 (sT_cmp s_notIn (sE_var (i := 10) rfl (by decide +kernel)) (sE_var (i := 2) rfl (by decide +kernel)) (by rfl)))))) sE_int) sA_nil)) sE_int (by rfl))) sE_int) sA_nil)) sE_int (by rfl)))))) (sE_var (i := 7) rfl (by decide +kernel))) (sB_cons (sS_for (sI_seq (sE_var (i := 6) rfl (by decide +kernel))) (sG_name (i := 7) rfl (by decide +kernel)) (sB_one (sS_put (i := 3) rfl (by decide +kernel) (sE_var (i := 7) rfl (by decide +kernel)) (sE_var (i := 4) rfl (by decide +kernel))))) (sB_one (sS_set (i := 2) rfl (by decide +kernel) (sE_bin s_add (sE_var (i := 2) rfl (by decide +kernel)) (sE_var (i := 6) rfl (by decide +kernel))))))))) (sB_cons (sS_set (i := 11) rfl (by decide +kernel) (sE_call (f := "can_end") (List.mem_of_getElem? (i := 20) rfl) (by decide +kernel) (sA_cons (sE_var (i := 0) rfl (by decide +kernel)) sA_nil))) (sB_cons (sS_setLc (i := 12) (own := [("k", 7)]) rfl (by kernel_rfl) (by kernel_rfl) (by rfl) (by decide +kernel) (sI_seq (sE_var (i := 1) rfl (by decide +kernel))) (by decide +kernel) rfl (sG_name (i := 7) rfl (by decide +kernel)) (by decide) (sF_one (sT_cmp s_notIn (sE_var (i := 7) rfl (by decide +kernel)) (sE_var (i := 3) rfl (by decide +kernel)) (by rfl))) (sE_var (i := 7) rfl (by decide +kernel))) (sB_cons (sS_if (SndW.t (sW_or (sT_cmp s_nee (sE_var (i := 11) rfl (by decide +kernel)) (sE_var (i := 3) rfl (by decide +kernel)) (by rfl)) (sW_or (sT_cmp s_nee (sE_ty (x := "list") cb_list (List.mem_of_getElem? (i := 7) rfl) (by decide +kernel) boot_list (sA_cons (sE_var (i := 11) rfl (by decide +kernel)) sA_nil)) (sE_ty (x := "list") cb_list (List.mem_of_getElem? (i := 7) rfl) (by decide +kernel) boot_list (sA_cons (sE_var (i := 3) rfl (by decide +kernel)) sA_nil)) (by rfl)) (sW_or (sT_cmp s_nee (sE_call (f := "endless") (List.mem_of_getElem? (i := 22) rfl) (by decide +kernel) (sA_cons (sE_var (i := 0) rfl (by decide +kernel)) sA_nil)) (sE_var (i := 12) rfl (by decide +kernel)) (by rfl)) (sW_or1 (sT_cmp s_nee (sE_lc (own := [("k", 7)]) (sI_seq (sE_var (i := 1) rfl (by decide +kernel))) (by decide +kernel) rfl (sG_name (i := 7) rfl (by decide +kernel)) (by decide) sF_nil (sE_call (f := "ends_by") (List.mem_of_getElem? (i := 21) rfl) (by decide +kernel) (sA_cons (sE_var (i := 0) rfl (by decide +kernel)) (sA_cons (sE_var (i := 7) rfl (by decide +kernel)) (sA_cons (sE_var (i := 11) rfl (by decide +kernel)) sA_nil))))) (sE_lc (own := [("k", 7)]) (sI_seq (sE_var (i := 1) rfl (by decide +kernel))) (by decide +kernel) rfl (sG_name (i := 7) rfl (by decide +kernel)) (by decide) sF_nil (sE_cmp s_in (sE_var (i := 7) rfl (by decide +kernel)) (sE_var (i := 3) rfl (by decide +kernel)) (by rfl))) (by rfl))))))) (sB_one (sS_ret sE_bl)) sB_nil) (sB_cons (sS_set (i := 13) rfl (by decide +kernel) (sE_lst (sA_cons (sE_tup sA_nil) sA_nil))) (sB_cons (sS_for (sI_seq (sE_var (i := 1) rfl (by decide +kernel))) (sG_name (i := 7) rfl (by decide +kernel)) (sB_one (sS_set (i := 13) rfl (by decide +kernel) (sE_bin s_add (sE_var (i := 13) rfl (by decide +kernel)) (sE_lc (own := [("lot", 8)]) (sI_seq (sE_var (i := 13) rfl (by decide +kernel))) (by decide +kernel) rfl (sG_name (i := 8) rfl (by decide +kernel)) (by decide) sF_nil (sE_bin s_add (sE_var (i := 8) rfl (by decide +kernel)) (sE_tup (sA_cons (sE_var (i := 7) rfl (by decide +kernel)) sA_nil)))))))) (sB_cons (sS_for (sI_seq (sE_var (i := 13) rfl (by decide +kernel))) (sG_name (i := 8) rfl (by decide +kernel)) (sB_cons (sS_set (i := 14) rfl (by decide +kernel) (sE_cmp s_eqq (sE_call (f := "_law_rows") (List.mem_of_getElem? (i := 39) rfl) (by decide +kernel) (sA_cons (sE_var (i := 0) rfl (by decide +kernel)) (sA_cons (sE_var (i := 8) rfl (by decide +kernel)) sA_nil))) (sE_call (f := "_law_turns_back") (List.mem_of_getElem? (i := 37) rfl) (by decide +kernel) (sA_cons (sE_var (i := 0) rfl (by decide +kernel)) (sA_cons (sE_var (i := 8) rfl (by decide +kernel)) sA_nil))) (by rfl))) (sB_one (sS_for (sI_seq (sE_var (i := 1) rfl (by decide +kernel))) (sG_name (i := 7) rfl (by decide +kernel)) (sB_one (sS_if (SndW.t (sW_or (sT_cmp s_nee (sE_call (f := "accepts_endless") (List.mem_of_getElem? (i := 23) rfl) (by decide +kernel) (sA_cons (sE_var (i := 0) rfl (by decide +kernel)) (sA_cons (sE_var (i := 7) rfl (by decide +kernel)) (sA_cons (sE_var (i := 8) rfl (by decide +kernel)) sA_nil)))) (sE_and (sE_var (i := 14) rfl (by decide +kernel)) (sE_one (sE_cmp s_in (sE_var (i := 7) rfl (by decide +kernel)) (sE_var (i := 8) rfl (by decide +kernel)) (by rfl)))) (by rfl)) (sW_or1 (SndW.t (sW_and (sT_val (sE_var (i := 14) rfl (by decide +kernel))) (sW_and (sT_cmp s_in (sE_var (i := 7) rfl (by decide +kernel)) (sE_var (i := 8) rfl (by decide +kernel)) (by rfl)) (sW_and1 (sT_cmp s_notIn (sE_var (i := 7) rfl (by decide +kernel)) (sE_var (i := 12) rfl (by decide +kernel)) (by rfl))))))))) (sB_one (sS_ret sE_bl)) sB_nil)))))) (sB_cons (sS_for (sI_seq (sE_tup (sA_cons sE_non (sA_cons (sE_ty (x := "list") cb_list (List.mem_of_getElem? (i := 7) rfl) (by decide +kernel) boot_list (sA_cons (sE_var (i := 12) rfl (by decide +kernel)) sA_nil)) (sA_cons (sE_tup (sA_cons sE_int sA_nil)) (sA_cons (sE_tup (sA_cons sE_bl sA_nil)) (sA_cons (sE_tup (sA_cons (sE_str (by decide +kernel)) sA_nil)) sA_nil))))))) (sG_name (i := 15) rfl (by decide +kernel)) (sB_one (sS_if (sT_cmp s_nee (sE_lc (own := [("k", 7)]) (sI_seq (sE_var (i := 1) rfl (by decide +kernel))) (by decide +kernel) rfl (sG_name (i := 7) rfl (by decide +kernel)) (by decide) sF_nil (sE_call (f := "accepts_endless") (List.mem_of_getElem? (i := 23) rfl) (by decide +kernel) (sA_cons (sE_var (i := 0) rfl (by decide +kernel)) (sA_cons (sE_var (i := 7) rfl (by decide +kernel)) (sA_cons (sE_var (i := 15) rfl (by decide +kernel)) sA_nil))))) (sE_bin s_mul (sE_lst (sA_cons sE_bl sA_nil)) (sE_blt (x := "len") cb_len (List.mem_of_getElem? (i := 0) rfl) (by decide +kernel) boot_len (sA_cons (sE_var (i := 1) rfl (by decide +kernel)) sA_nil))) (by rfl)) (sB_one (sS_ret sE_bl)) sB_nil))) (sB_one (sS_ret (sE_or (sE_cmp s_eqq (sE_var (i := 12) rfl (by decide +kernel)) (sE_lst sA_nil) (by rfl)) (sE_one (sE_cmp s_is (sE_call (f := "accepts_endless") (List.mem_of_getElem? (i := 23) rfl) (by decide +kernel) (sA_cons (sE_var (i := 0) rfl (by decide +kernel)) (sA_cons (sE_ix ix_any (sE_var (i := 12) rfl (by decide +kernel)) sE_int) (sA_cons (sE_ty (x := "tuple") cb_tup (List.mem_of_getElem? (i := 6) rfl) (by decide +kernel) boot_tuple (sA_cons (sE_var (i := 12) rfl (by decide +kernel)) sA_nil)) sA_nil)))) sE_bl (by rfl)))))))))))))))
abbrev st__law_things : Stmt := top 51
def N__law_things : List Str := ["state", "book", "many", "one", "other", "k", "j", "rows", "due", "lot", "chance"]
theorem sc__law_things : FnScope N__law_things ["state", "book", "many"] (defScope st__law_things) := ⟨rfl, rfl, rfl, by decide +kernel, rfl, by decide +kernel, by decide +kernel⟩
noncomputable def b__law_things (Φ : Phi) : Ex := (bSeq (sPar 3 3 4 (cCall Φ "_law_lot" (aCons (cVar 0) (aCons (cVar 2) (aCons (cC (.int (4))) aNil)))) (cCall Φ "_law_lot" (aCons (cVar 0) (aCons (cVar 2) (aCons (cC (.int (4))) aNil))))) (bSeq (sIf (cOrB (cTst (cBin oNee (cCall Φ "together" (aCons (cVar 3) (aCons (cVar 4) aNil))) (cB bTup (aCons (cLc [5] (iRng (aCons (cVar 2) aNil)) (tName 0 5) cYes (cBin oAdd (cBin oIx (cVar 3) (cVar 5)) (cBin oIx (cVar 4) (cVar 5)))) aNil)))) (cTst (cBin oNee (cCall Φ "nothing" (aCons (cVar 1) aNil)) (cBin oMul (cTup (aCons (cC (.int (0))) aNil)) (cVar 2))))) (sRet (cC (.bool false))) bNil) (bSeq (sIf (cTst (cBin oNee (cLc [5] (iRng (aCons (cVar 2) aNil)) (tName 0 5) cYes (cCall Φ "one_of" (aCons (cVar 1) (aCons (cVar 5) aNil)))) (cLc [5] (iRng (aCons (cVar 2) aNil)) (tName 0 5) cYes (cB bTup (aCons (cLc [6] (iRng (aCons (cVar 2) aNil)) (tName 0 6) cYes (cB bInt (aCons (cBin oEqq (cVar 6) (cVar 5)) aNil))) aNil))))) (sRet (cC (.bool false))) bNil) (bSeq (sIf (cOrB (cTst (cBin oNee (cCall Φ "has" (aCons (cVar 3) (aCons (cLst (aCons (cC (.int (0))) aNil)) aNil))) (cBin oGt (cBin oIx (cVar 3) (cC (.int (0)))) (cC (.int (0)))))) (cOrB (cTst (cBin oIsNot (cCall Φ "has" (aCons (cVar 3) (aCons (cLst aNil) aNil))) (cC (.bool false)))) (cTst (cBin oNee (cCall Φ "with_start" (aCons (cVar 1) (aCons (cVar 3) aNil))) (cBin oAdd (cSl (cVar 1) oNone (oSome (cC (.int (3))))) (cTup (aCons (cVar 3) aNil))))))) (sRet (cC (.bool false))) bNil) (bSeq (sSet 3 7 (cLst (aCons (cTup (aCons (cVar 3) (aCons (cTup (aCons (cC (.int (1))) (aCons (cC (.int (4))) aNil))) aNil))) (aCons (cTup (aCons (cVar 4) (aCons (cTup (aCons (cC (.int (1))) (aCons (cC (.int (4))) aNil))) aNil))) (aCons (cTup (aCons (cVar 3) (aCons (cTup (aCons (cC (.int (1))) (aCons (cC (.int (2))) aNil))) aNil))) (aCons (cTup (aCons (cCall Φ "nothing" (aCons (cVar 1) aNil)) (aCons (cTup (aCons (cC (.int (0))) (aCons (cC (.int (1))) aNil))) aNil))) aNil)))))) (bSeq (sSet 3 8 cNt) (bSeq (sFor (iSeq (cSl (cVar 7) oNone (oSome (cC (.int (3)))))) (tPair 3 9 10) (sPut 8 (cVar 9) (cCall Φ "_law_add" (aCons (cGet 8 (cVar 9) (cTup (aCons (cC (.int (0))) (aCons (cC (.int (1))) aNil)))) (aCons (cVar 10) aNil))))) (sRet (cBin oEqq (cCall Φ "sorted_litters" (aCons (cVar 7) aNil)) (cB bTup (aCons (cLc [9] (iSeq (cB (bSorted false) (aCons (cVar 8) aNil))) (tName 0 9) cYes (cTup (aCons (cVar 9) (aCons (cBin oDG (cVar 8) (cVar 9)) aNil)))) aNil)))))))))))
theorem s__law_things (Φ : Phi) (k : Nat) : SndB (gam Φ k) N__law_things 3 (defScope st__law_things) (defBody st__law_things) (b__law_things Φ) := by
  unfold b__law_things
  exact (sB_cons (sS_parT (i := 3) (j := 4) rfl rfl (by decide +kernel) (by decide +kernel) (sE_call (f := "_law_lot") (List.mem_of_getElem? (i := 31) rfl) (by decide +kernel) (sA_cons (sE_var (i := 0) rfl (by decide +kernel)) (sA_cons (sE_var (i := 2) rfl (by decide +kernel)) (sA_cons sE_int sA_nil)))) (sE_call (f := "_law_lot") (List.mem_of_getElem? (i := 31) rfl) (by decide +kernel) (sA_cons (sE_var (i := 0) rfl (by decide +kernel)) (sA_cons (sE_var (i := 2) rfl (by decide +kernel)) (sA_cons sE_int sA_nil)))) (swap_by (by kernel_rfl))) (sB_cons (sS_if (SndW.t (sW_or (sT_cmp s_nee (sE_call (f := "together") (List.mem_of_getElem? (i := 13) rfl) (by decide +kernel) (sA_cons (sE_var (i := 3) rfl (by decide +kernel)) (sA_cons (sE_var (i := 4) rfl (by decide +kernel)) sA_nil))) (sE_ty (x := "tuple") cb_tup (List.mem_of_getElem? (i := 6) rfl) (by decide +kernel) boot_tuple (sA_cons (sE_lc (own := [("k", 5)]) (sI_rng1 (List.mem_of_getElem? (i := 10) rfl) (by decide +kernel) (sA_cons (sE_var (i := 2) rfl (by decide +kernel)) sA_nil)) (by decide +kernel) rfl (sG_name (i := 5) rfl (by decide +kernel)) (by decide) sF_nil (sE_bin s_add (sE_ix ix_any (sE_var (i := 3) rfl (by decide +kernel)) (sE_var (i := 5) rfl (by decide +kernel))) (sE_ix ix_any (sE_var (i := 4) rfl (by decide +kernel)) (sE_var (i := 5) rfl (by decide +kernel))))) sA_nil)) (by rfl)) (sW_or1 (sT_cmp s_nee (sE_call (f := "nothing") (List.mem_of_getElem? (i := 12) rfl) (by decide +kernel) (sA_cons (sE_var (i := 1) rfl (by decide +kernel)) sA_nil)) (sE_bin s_mul (sE_tup (sA_cons sE_int sA_nil)) (sE_var (i := 2) rfl (by decide +kernel))) (by rfl))))) (sB_one (sS_ret sE_bl)) sB_nil) (sB_cons (sS_if (sT_cmp s_nee (sE_lc (own := [("k", 5)]) (sI_rng1 (List.mem_of_getElem? (i := 10) rfl) (by decide +kernel) (sA_cons (sE_var (i := 2) rfl (by decide +kernel)) sA_nil)) (by decide +kernel) rfl (sG_name (i := 5) rfl (by decide +kernel)) (by decide) sF_nil (sE_call (f := "one_of") (List.mem_of_getElem? (i := 11) rfl) (by decide +kernel) (sA_cons (sE_var (i := 1) rfl (by decide +kernel)) (sA_cons (sE_var (i := 5) rfl (by decide +kernel)) sA_nil)))) (sE_lc (own := [("k", 5)]) (sI_rng1 (List.mem_of_getElem? (i := 10) rfl) (by decide +kernel) (sA_cons (sE_var (i := 2) rfl (by decide +kernel)) sA_nil)) (by decide +kernel) rfl (sG_name (i := 5) rfl (by decide +kernel)) (by decide) sF_nil (sE_ty (x := "tuple") cb_tup (List.mem_of_getElem? (i := 6) rfl) (by decide +kernel) boot_tuple (sA_cons (sE_lc (own := [("j", 6)]) (sI_rng1 (List.mem_of_getElem? (i := 10) rfl) (by decide +kernel) (sA_cons (sE_var (i := 2) rfl (by decide +kernel)) sA_nil)) (by decide +kernel) rfl (sG_name (i := 6) rfl (by decide +kernel)) (by decide) sF_nil (sE_ty (x := "int") cb_int (List.mem_of_getElem? (i := 2) rfl) (by decide +kernel) boot_int (sA_cons (sE_cmp s_eqq (sE_var (i := 6) rfl (by decide +kernel)) (sE_var (i := 5) rfl (by decide +kernel)) (by rfl)) sA_nil))) sA_nil))) (by rfl)) (sB_one (sS_ret sE_bl)) sB_nil) (sB_cons (sS_if (SndW.t (sW_or (sT_cmp s_nee (sE_call (f := "has") (List.mem_of_getElem? (i := 14) rfl) (by decide +kernel) (sA_cons (sE_var (i := 3) rfl (by decide +kernel)) (sA_cons (sE_lst (sA_cons sE_int sA_nil)) sA_nil))) (sE_cmp s_gt (sE_ix ix_any (sE_var (i := 3) rfl (by decide +kernel)) sE_int) sE_int (by rfl)) (by rfl)) (sW_or (sT_cmp s_isNot (sE_call (f := "has") (List.mem_of_getElem? (i := 14) rfl) (by decide +kernel) (sA_cons (sE_var (i := 3) rfl (by decide +kernel)) (sA_cons (sE_lst sA_nil) sA_nil))) sE_bl (by rfl)) (sW_or1 (sT_cmp s_nee (sE_call (f := "with_start") (List.mem_of_getElem? (i := 18) rfl) (by decide +kernel) (sA_cons (sE_var (i := 1) rfl (by decide +kernel)) (sA_cons (sE_var (i := 3) rfl (by decide +kernel)) sA_nil))) (sE_bin s_add (sE_sl (sE_var (i := 1) rfl (by decide +kernel)) sO_none (sO_some sE_int)) (sE_tup (sA_cons (sE_var (i := 3) rfl (by decide +kernel)) sA_nil))) (by rfl)))))) (sB_one (sS_ret sE_bl)) sB_nil) (sB_cons (sS_set (i := 7) rfl (by decide +kernel) (sE_lst (sA_cons (sE_tup (sA_cons (sE_var (i := 3) rfl (by decide +kernel)) (sA_cons (sE_tup (sA_cons sE_int (sA_cons sE_int sA_nil))) sA_nil))) (sA_cons (sE_tup (sA_cons (sE_var (i := 4) rfl (by decide +kernel)) (sA_cons (sE_tup (sA_cons sE_int (sA_cons sE_int sA_nil))) sA_nil))) (sA_cons (sE_tup (sA_cons (sE_var (i := 3) rfl (by decide +kernel)) (sA_cons (sE_tup (sA_cons sE_int (sA_cons sE_int sA_nil))) sA_nil))) (sA_cons (sE_tup (sA_cons (sE_call (f := "nothing") (List.mem_of_getElem? (i := 12) rfl) (by decide +kernel) (sA_cons (sE_var (i := 1) rfl (by decide +kernel)) sA_nil)) (sA_cons (sE_tup (sA_cons sE_int (sA_cons sE_int sA_nil))) sA_nil))) sA_nil)))))) (sB_cons (sS_set (i := 8) rfl (by decide +kernel) sE_nt) (sB_cons (sS_for (sI_seq (sE_sl (sE_var (i := 7) rfl (by decide +kernel)) sO_none (sO_some sE_int))) (sG_pair (i := 9) (j := 10) rfl (by decide +kernel) rfl (by decide +kernel)) (sB_one (sS_put (i := 8) rfl (by decide +kernel) (sE_var (i := 9) rfl (by decide +kernel)) (sE_call (f := "_law_add") (List.mem_of_getElem? (i := 30) rfl) (by decide +kernel) (sA_cons (sE_get (i := 8) rfl (by decide +kernel) (sE_var (i := 9) rfl (by decide +kernel)) (sE_tup (sA_cons sE_int (sA_cons sE_int sA_nil)))) (sA_cons (sE_var (i := 10) rfl (by decide +kernel)) sA_nil)))))) (sB_one (sS_ret (sE_cmp s_eqq (sE_call (f := "sorted_litters") (List.mem_of_getElem? (i := 19) rfl) (by decide +kernel) (sA_cons (sE_var (i := 7) rfl (by decide +kernel)) sA_nil)) (sE_ty (x := "tuple") cb_tup (List.mem_of_getElem? (i := 6) rfl) (by decide +kernel) boot_tuple (sA_cons (sE_lc (own := [("lot", 9)]) (sI_seq (sE_blt (x := "sorted") (cb_sorted (own := false)) (List.mem_of_getElem? (i := 8) rfl) (by decide +kernel) boot_sorted (sA_cons (sE_var (i := 8) rfl (by decide +kernel)) sA_nil))) (by decide +kernel) rfl (sG_name (i := 9) rfl (by decide +kernel)) (by decide) sF_nil (sE_tup (sA_cons (sE_var (i := 9) rfl (by decide +kernel)) (sA_cons (sE_dg (sE_var (i := 8) rfl (by decide +kernel)) (sE_var (i := 9) rfl (by decide +kernel))) sA_nil)))) sA_nil)) (by rfl)))))))))))
abbrev st_law : Stmt := top 52
def N_law : List Str := ["script", "state", "turn", "book", "many", "every", "k", "j", "lot", "chance"]
theorem sc_law : FnScope N_law ["script"] (defScope st_law) := ⟨rfl, rfl, rfl, by decide +kernel, rfl, by decide +kernel, by decide +kernel⟩
noncomputable def b_law (Φ : Phi) : Ex := (bSeq (sSet 1 1 (cCall Φ "_law_state" (aCons (cVar 0) aNil))) (bSeq (sFor (iRng (aCons (cC (.int (10))) aNil)) (tName 1 2) (bSeq (sSet 1 3 (cCall Φ "_law_book" (aCons (cVar 1) (aCons (cC (.int (3))) aNil)))) (bSeq (sSet 1 4 (cB bLen (aCons (cBin oIx (cVar 3) (cC (.int (1)))) aNil))) (bSeq (sSet 1 5 (cLr (cVar 4))) (bSeq (sIf (cOrB (cTst (cBin oIsNot (cCall Φ "is_book" (aCons (cVar 3) aNil)) (cC (.bool true)))) (cTst (cBin oNee (cLc [6] (iSeq (cVar 5)) (tName 0 6) cYes (cCall Φ "children" (aCons (cVar 3) (aCons (cVar 6) aNil)))) (cLc [6] (iSeq (cVar 5)) (tName 0 6) cYes (cLc [7] (iSeq (cVar 5)) (tName 0 7) (cTst (cBin oGt (cB bLen (aCons (cLc [8, 9] (iSeq (cBin oIx (cBin oIx (cVar 3) (cC (.int (2)))) (cVar 6))) (tPair 0 8 9) (cTst (cBin oGt (cBin oIx (cVar 8) (cVar 7)) (cC (.int (0))))) (cC (.int (1)))) aNil)) (cC (.int (0))))) (cVar 7)))))) (sRet (cC (.bool false))) bNil) (bSeq (sIf (cTst (cBin oNee (cLc [6] (iSeq (cVar 5)) (tName 0 6) cYes (cCall Φ "reached" (aCons (cVar 3) (aCons (cLst (aCons (cVar 6) aNil)) aNil)))) (cLc [6] (iSeq (cVar 5)) (tName 0 6) cYes (cCall Φ "_law_comes" (aCons (cVar 3) (aCons (cLst (aCons (cVar 6) aNil)) aNil)))))) (sRet (cC (.bool false))) bNil) (bSeq (sIf (cOrB (cTst (cBin oNee (cCall Φ "lots_of" (aCons (cVar 3) aNil)) (cCall Φ "_law_lots" (aCons (cVar 3) aNil)))) (cOrB (cTst (cBin oNee (cCall Φ "started" (aCons (cVar 3) aNil)) (cLc [6] (iSeq (cVar 5)) (tName 0 6) (cTst (cBin oGt (cBin oIx (cBin oIx (cVar 3) (cC (.int (3)))) (cVar 6)) (cC (.int (0))))) (cVar 6)))) (cTst (cBin oNee (cCall Φ "reached" (aCons (cVar 3) (aCons (cCall Φ "started" (aCons (cVar 3) aNil)) aNil))) (cCall Φ "_law_comes" (aCons (cVar 3) (aCons (cCall Φ "started" (aCons (cVar 3) aNil)) aNil))))))) (sRet (cC (.bool false))) bNil) (bSeq (sFor (iSeq (cCall Φ "_law_lots" (aCons (cVar 3) aNil))) (tName 1 8) (sIf (cOrB (cTst (cBin oNee (cCall Φ "is_circling" (aCons (cVar 3) (aCons (cVar 8) aNil))) (cBin oGt (cCall Φ "_law_turns_back" (aCons (cVar 3) (aCons (cVar 8) aNil))) (cC (.int (0)))))) (cTst (cBin oNee (cCall Φ "is_plain" (aCons (cVar 3) (aCons (cVar 8) aNil))) (cBin oEqq (cCall Φ "_law_odd" (aCons (cVar 3) (aCons (cVar 8) aNil))) (cC (.int (0))))))) (sRet (cC (.bool false))) bNil)) (sIf (cOrB (cNotB (cTst (cCall Φ "_law_ends" (aCons (cVar 3) (aCons (cVar 5) aNil))))) (cNotB (cTst (cCall Φ "_law_things" (aCons (cVar 1) (aCons (cVar 3) (aCons (cVar 4) aNil))))))) (sRet (cC (.bool false))) bNil))))))))) (sRet (cC (.bool true)))))
theorem s_law (Φ : Phi) (k : Nat) : SndB (gam Φ k) N_law 1 (defScope st_law) (defBody st_law) (b_law Φ) := by
  unfold b_law
  exact (sB_cons (sS_set (i := 1) rfl (by decide +kernel) (sE_call (f := "_law_state") (List.mem_of_getElem? (i := 27) rfl) (by decide +kernel) (sA_cons (sE_var (i := 0) rfl (by decide +kernel)) sA_nil))) (sB_cons (sS_for (sI_rng1 (List.mem_of_getElem? (i := 10) rfl) (by decide +kernel) (sA_cons sE_int sA_nil)) (sG_name (i := 2) rfl (by decide +kernel)) (sB_cons (sS_set (i := 3) rfl (by decide +kernel) (sE_call (f := "_law_book") (List.mem_of_getElem? (i := 34) rfl) (by decide +kernel) (sA_cons (sE_var (i := 1) rfl (by decide +kernel)) (sA_cons sE_int sA_nil)))) (sB_cons (sS_set (i := 4) rfl (by decide +kernel) (sE_blt (x := "len") cb_len (List.mem_of_getElem? (i := 0) rfl) (by decide +kernel) boot_len (sA_cons (sE_ix ix_any (sE_var (i := 3) rfl (by decide +kernel)) sE_int) sA_nil))) (sB_cons (sS_set (i := 5) rfl (by decide +kernel) (sE_lr (List.mem_of_getElem? (i := 7) rfl) (List.mem_of_getElem? (i := 10) rfl) (by decide +kernel) (by decide +kernel) (sE_var (i := 4) rfl (by decide +kernel)))) (sB_cons (sS_if (SndW.t (sW_or (sT_cmp s_isNot (sE_call (f := "is_book") (List.mem_of_getElem? (i := 10) rfl) (by decide +kernel) (sA_cons (sE_var (i := 3) rfl (by decide +kernel)) sA_nil)) sE_bl (by rfl)) (sW_or1 (sT_cmp s_nee (sE_lc (own := [("k", 6)]) (sI_seq (sE_var (i := 5) rfl (by decide +kernel))) (by decide +kernel) rfl (sG_name (i := 6) rfl (by decide +kernel)) (by decide) sF_nil (sE_call (f := "children") (List.mem_of_getElem? (i := 15) rfl) (by decide +kernel) (sA_cons (sE_var (i := 3) rfl (by decide +kernel)) (sA_cons (sE_var (i := 6) rfl (by decide +kernel)) sA_nil)))) (sE_lc (own := [("k", 6)]) (sI_seq (sE_var (i := 5) rfl (by decide +kernel))) (by decide +kernel) rfl (sG_name (i := 6) rfl (by decide +kernel)) (by decide) sF_nil (sE_lc (own := [("j", 7)]) (sI_seq (sE_var (i := 5) rfl (by decide +kernel))) (by decide +kernel) rfl (sG_name (i := 7) rfl (by decide +kernel)) (by decide) (sF_one (sT_cmp s_gt (sE_blt (x := "len") cb_len (List.mem_of_getElem? (i := 0) rfl) (by decide +kernel) boot_len (sA_cons (sE_lc (own := [("lot", 8), ("chance", 9)]) (sI_seq (sE_ix ix_any (sE_ix ix_any (sE_var (i := 3) rfl (by decide +kernel)) sE_int) (sE_var (i := 6) rfl (by decide +kernel)))) (by decide +kernel) rfl (sG_pair (i := 8) (j := 9) rfl (by decide +kernel) rfl (by decide +kernel)) (by decide) (sF_one (sT_cmp s_gt (sE_ix ix_any (sE_var (i := 8) rfl (by decide +kernel)) (sE_var (i := 7) rfl (by decide +kernel))) sE_int (by rfl))) sE_int) sA_nil)) sE_int (by rfl))) (sE_var (i := 7) rfl (by decide +kernel)))) (by rfl))))) (sB_one (sS_ret sE_bl)) sB_nil) (sB_cons (sS_if (sT_cmp s_nee (sE_lc (own := [("k", 6)]) (sI_seq (sE_var (i := 5) rfl (by decide +kernel))) (by decide +kernel) rfl (sG_name (i := 6) rfl (by decide +kernel)) (by decide) sF_nil (sE_call (f := "reached") (List.mem_of_getElem? (i := 16) rfl) (by decide +kernel) (sA_cons (sE_var (i := 3) rfl (by decide +kernel)) (sA_cons (sE_lst (sA_cons (sE_var (i := 6) rfl (by decide +kernel)) sA_nil)) sA_nil)))) (sE_lc (own := [("k", 6)]) (sI_seq (sE_var (i := 5) rfl (by decide +kernel))) (by decide +kernel) rfl (sG_name (i := 6) rfl (by decide +kernel)) (by decide) sF_nil (sE_call (f := "_law_comes") (List.mem_of_getElem? (i := 35) rfl) (by decide +kernel) (sA_cons (sE_var (i := 3) rfl (by decide +kernel)) (sA_cons (sE_lst (sA_cons (sE_var (i := 6) rfl (by decide +kernel)) sA_nil)) sA_nil)))) (by rfl)) (sB_one (sS_ret sE_bl)) sB_nil) (sB_cons (sS_if (SndW.t (sW_or (sT_cmp s_nee (sE_call (f := "lots_of") (List.mem_of_getElem? (i := 24) rfl) (by decide +kernel) (sA_cons (sE_var (i := 3) rfl (by decide +kernel)) sA_nil)) (sE_call (f := "_law_lots") (List.mem_of_getElem? (i := 36) rfl) (by decide +kernel) (sA_cons (sE_var (i := 3) rfl (by decide +kernel)) sA_nil)) (by rfl)) (sW_or (sT_cmp s_nee (sE_call (f := "started") (List.mem_of_getElem? (i := 17) rfl) (by decide +kernel) (sA_cons (sE_var (i := 3) rfl (by decide +kernel)) sA_nil)) (sE_lc (own := [("k", 6)]) (sI_seq (sE_var (i := 5) rfl (by decide +kernel))) (by decide +kernel) rfl (sG_name (i := 6) rfl (by decide +kernel)) (by decide) (sF_one (sT_cmp s_gt (sE_ix ix_any (sE_ix ix_any (sE_var (i := 3) rfl (by decide +kernel)) sE_int) (sE_var (i := 6) rfl (by decide +kernel))) sE_int (by rfl))) (sE_var (i := 6) rfl (by decide +kernel))) (by rfl)) (sW_or1 (sT_cmp s_nee (sE_call (f := "reached") (List.mem_of_getElem? (i := 16) rfl) (by decide +kernel) (sA_cons (sE_var (i := 3) rfl (by decide +kernel)) (sA_cons (sE_call (f := "started") (List.mem_of_getElem? (i := 17) rfl) (by decide +kernel) (sA_cons (sE_var (i := 3) rfl (by decide +kernel)) sA_nil)) sA_nil))) (sE_call (f := "_law_comes") (List.mem_of_getElem? (i := 35) rfl) (by decide +kernel) (sA_cons (sE_var (i := 3) rfl (by decide +kernel)) (sA_cons (sE_call (f := "started") (List.mem_of_getElem? (i := 17) rfl) (by decide +kernel) (sA_cons (sE_var (i := 3) rfl (by decide +kernel)) sA_nil)) sA_nil))) (by rfl)))))) (sB_one (sS_ret sE_bl)) sB_nil) (sB_cons (sS_for (sI_seq (sE_call (f := "_law_lots") (List.mem_of_getElem? (i := 36) rfl) (by decide +kernel) (sA_cons (sE_var (i := 3) rfl (by decide +kernel)) sA_nil))) (sG_name (i := 8) rfl (by decide +kernel)) (sB_one (sS_if (SndW.t (sW_or (sT_cmp s_nee (sE_call (f := "is_circling") (List.mem_of_getElem? (i := 25) rfl) (by decide +kernel) (sA_cons (sE_var (i := 3) rfl (by decide +kernel)) (sA_cons (sE_var (i := 8) rfl (by decide +kernel)) sA_nil))) (sE_cmp s_gt (sE_call (f := "_law_turns_back") (List.mem_of_getElem? (i := 37) rfl) (by decide +kernel) (sA_cons (sE_var (i := 3) rfl (by decide +kernel)) (sA_cons (sE_var (i := 8) rfl (by decide +kernel)) sA_nil))) sE_int (by rfl)) (by rfl)) (sW_or1 (sT_cmp s_nee (sE_call (f := "is_plain") (List.mem_of_getElem? (i := 26) rfl) (by decide +kernel) (sA_cons (sE_var (i := 3) rfl (by decide +kernel)) (sA_cons (sE_var (i := 8) rfl (by decide +kernel)) sA_nil))) (sE_cmp s_eqq (sE_call (f := "_law_odd") (List.mem_of_getElem? (i := 38) rfl) (by decide +kernel) (sA_cons (sE_var (i := 3) rfl (by decide +kernel)) (sA_cons (sE_var (i := 8) rfl (by decide +kernel)) sA_nil))) sE_int (by rfl)) (by rfl))))) (sB_one (sS_ret sE_bl)) sB_nil))) (sB_one (sS_if (SndW.t (sW_or (sT_not (sT_val (sE_call (f := "_law_ends") (List.mem_of_getElem? (i := 40) rfl) (by decide +kernel) (sA_cons (sE_var (i := 3) rfl (by decide +kernel)) (sA_cons (sE_var (i := 5) rfl (by decide +kernel)) sA_nil))))) (sW_or1 (sT_not (sT_val (sE_call (f := "_law_things") (List.mem_of_getElem? (i := 41) rfl) (by decide +kernel) (sA_cons (sE_var (i := 1) rfl (by decide +kernel)) (sA_cons (sE_var (i := 3) rfl (by decide +kernel)) (sA_cons (sE_var (i := 4) rfl (by decide +kernel)) sA_nil))))))))) (sB_one (sS_ret sE_bl)) sB_nil)))))))))) (sB_one (sS_ret sE_bl))))
end PP.K03

end
section
set_option Elab.async false
set_option linter.all false
set_option maxRecDepth 100000
set_option maxHeartbeats 0
/-! K03b: what is taken off the tape. -/
namespace PP.K03
open PySem PySem.Spec PyProof.Rows L2 PP

def takeV (pos : Int) (cells : List Int) (b : Int) : Option FRes :=
  if b < 2 then some (.ok (.dat (.int 0)) [.tp pos cells, .dat (.int b)])
  else if cells = [] ∨ ¬ b ≤ 1000000000 ∨ pos < 0 ∨ ¬ pos ≤ 1000000000000 then none
  else if 1000000000000000000 ≤ cells.getD (pos % cells.length).toNat 0 then some (.ok (.dat (.int (cells.getD (pos % cells.length).toNat 0 % b))) [.tp pos (cells.set (pos % cells.length).toNat (cells.getD (pos % cells.length).toNat 0 / b)), .dat (.int b)])
  else if cells.getD (pos % cells.length).toNat 0 < 0 then none
  else some (.ok (.dat (.int (((cells.getD (pos % cells.length).toNat 0 * 48271 + (pos + 1) * 69621) % 2147483647 * 16807 + (pos + 1) * 7919) % 1000000007 / 7 % b))) [.tp (pos + 1) cells, .dat (.int b)])
def takeF : List Val → Option FRes
  | [.tp pos cells, .dat (.int b)] => takeV pos cells b
  | _ => none
theorem takeF_form {as : List Val} {r : FRes} (h : takeF as = some r) : ∃ pos cells b, as = [.tp pos cells, .dat (.int b)] := by
  unfold takeF at h
  split at h
  · exact ⟨_, _, _, rfl⟩
  · cases h
section
variable {P : Program} {w : World} {K : PySem.W.Frag} {mg : Str → Option Value} {base : Heap} {f : Addr} {fd : FuncData} {XR0 : XR}
/-- the tape behind a step -/
theorem tape_post {G H : Hp} {T C : Addr} {b pos pos' : Int} {cells cells' : List Int} {H' : Hp} (s : S8 K G H [some (.ref T), some (.int b)] [some (.tp pos cells), some (.dat (.int b))]) (ne : T ≠ C) (gT : G T = none) (gC : G C = none) (hT : H T = some (.lst [.int pos, .ref C])) (hC : H C = some (.lst (cells.map .int)))
    (eT : H' T = some (.lst [.int pos', .ref C])) (eC : H' C = some (.lst (cells'.map .int))) (eo : ∀ a, a ≠ T → a ≠ C → H' a = H a) (r : Int) :
    PostE K [some (.ref T), some (.int b)] G H [some (.tp pos cells), some (.dat (.int b))] G H' [some (.tp pos' cells'), some (.dat (.int b))] (.int r) (.dat (.int r)) := by
  have foot' : ∀ x, foot H' (.ref T) (.tp pos' cells') x ↔ x = T ∨ x = C := fun x => by
    constructor
    · rintro (e | ⟨T', q, e, z⟩)
      · exact .inl (V.ref.inj e).symm
      · cases e; rw [eT] at z; cases z; exact .inr rfl
    · rintro (e | e)
      · rw [e]; exact .inl rfl
      · rw [e]; exact .inr ⟨T, _, rfl, eT⟩
  have foot0 : ∀ x, foot H (.ref T) (.tp pos cells) x ↔ x = T ∨ x = C := fun x => by
    constructor
    · rintro (e | ⟨T', q, e, z⟩)
      · exact .inl (V.ref.inj e).symm
      · cases e; rw [hT] at z; cases z; exact .inr rfl
    · rintro (e | e)
      · rw [e]; exact .inl rfl
      · rw [e]; exact .inr ⟨T, _, rfl, hT⟩
  have at0 : ∀ {ρ : PP.Env} {pos : Int} {cells : List Int}, ρ = [some (.tp pos cells), some (.dat (.int b))] → ∀ {Hx : Hp} {j : Nat} {u : V} {v : Val} {x : Addr}, ([some (V.ref T), some (.int b)] : L2.St)[j]? = some (some u) → ρ[j]? = some (some v) → foot Hx u v x → j = 0 ∧ u = .ref T ∧ v = .tp pos cells := fun {ρ pos cells} e {Hx j u v x} h1 h2 f => by
    subst e
    match j with
    | 0 => cases h1; cases h2; exact ⟨rfl, rfl, rfl⟩
    | 1 => cases h1; cases h2; exact f.elim
    | j + 2 => cases h1
  have own : ∀ x, x = T ∨ x = C → Own H [some (.ref T), some (.int b)] [some (.tp pos cells), some (.dat (.int b))] x := fun x hx => ⟨0, .ref T, .tp pos cells, rfl, rfl, (foot0 x).mpr hx⟩
  have same : ∀ a o, G a = some o → H' a = H a := fun a o h => eo a (fun e => by rw [e, gT] at h; cases h) fun e => by rw [e, gC] at h; cases h
  refine ⟨⟨fun a o h => (same a o h).trans (s.gh a o h), fun a xs h => ?_, rfl, fun j v h => ?_, fun i j u v u' v' x hij h1 h2 h3 h4 f1 f2 => ?_⟩, ⟨fun _ _ h => h, fun _ _ _ => rfl, fun a o h n => ?_, fun a h => ?_⟩, fun x ⟨j, u, v, h1, h2, f1⟩ => ?_, fun j v h hm => ?_, Dt.int r, fun x f1 => f1.elim⟩
  · by_cases e1 : a = T
    · subst e1; rw [eT] at h; cases h
    · by_cases e2 : a = C
      · subst e2; rw [eC] at h; cases h
      · rw [eo a e1 e2] at h; exact s.ht a xs h
  · match j with
    | 0 => cases h; exact ⟨trivial, .ref T, rfl, T, C, rfl, ne, gT, gC, eT, eC⟩
    | 1 => cases h; exact ⟨trivial, .int b, rfl, Dt.int b⟩
    | j + 2 => cases h
  · exact hij ((at0 rfl h1 h2 f1).1.trans (at0 rfl h3 h4 f2).1.symm)
  · rw [eo a (fun e => n (own a (.inl e))) fun e => n (own a (.inr e))]; exact h
  · by_cases e1 : a = T
    · subst e1; rw [eT]; simp
    · by_cases e2 : a = C
      · subst e2; rw [eC]; simp
      · rw [eo a e1 e2]; exact h
  · obtain ⟨rfl, rfl, rfl⟩ := at0 rfl h1 h2 f1
    exact own x ((foot' x).mp f1)
  · match j with
    | 0 => cases h; exact ⟨rfl, .tp pos cells, rfl, rfl, fun u x h1 f1 => by cases h1; exact (foot0 x).mpr ((foot' x).mp f1)⟩
    | 1 => cases h; cases hm
    | j + 2 => cases h
theorem atI_mod {cells : List Int} {pos : Int} (h : cells ≠ []) : L2.atI (cells.map V.int) (pos % cells.length) = some (.int (cells.getD (pos % cells.length).toNat 0)) ∧ ixN (cells.map V.int).length (pos % cells.length) = some (pos % cells.length).toNat := by
  have hl : 0 < cells.length := List.length_pos_iff.mpr h
  have h0 : 0 ≤ pos % (cells.length : Int) := Int.emod_nonneg _ (by omega)
  have h1 : pos % (cells.length : Int) < cells.length := Int.emod_lt_of_pos _ (by omega)
  have e : ixN (cells.map V.int).length (pos % cells.length) = some (pos % cells.length).toNat := by
    unfold ixN
    rw [List.length_map, if_pos h0, if_pos h1]
  refine ⟨?_, e⟩
  unfold L2.atI
  rw [e]
  have hn : (pos % (cells.length : Int)).toNat < cells.length := by omega
  show (cells.map V.int)[(pos % (cells.length : Int)).toNat]? = _
  rw [List.getElem?_map, List.getElem?_eq_getElem hn, List.getD_eq_getElem?_getD, List.getElem?_eq_getElem hn]
  rfl
theorem fin_of {X : Cx} {b : List Stmt} {D : Ends} {σ : L2.St} {H : Hp} {t : TS} (pss : PSs X b t) (wish : t D σ H) : ∃ t, PSs X b t ∧ t D σ H := ⟨t, pss, wish⟩
theorem ok_take {k : Nat} (F : FunD K "_law_take" "_law_take" (defArgs st__law_take) (defBody st__law_take) (defScope st__law_take) [] [] f fd) (hlen : mg "len" = none) (hint : mg "int" = none) :
    FnOk P w K mg base (L2.CX P w) (k + 1) f fd ["state", "bound"] (spOf XR0 2 K takeF) := by
  refine F.ok sc__law_take (fun vs H Q E h => h.1) (fun cdv A outer s H vs Q E hr ⟨hl, G, as, s8, hφ⟩ => ?_)
  apply fin_of
  case pss =>
    have nd := sc__law_take.nd
    exact pss_cons (ps_if (pt_cmpR op_lt (pv 1) pe_int (by rfl)) (pss_one (ps_ret pe_int)) pss_nil)
      (pss_cons (ps_set (i := 2) nd rfl (.inl rfl) (pe_ix ix_seq (pv 0) pe_int (fun _ _ => rfl)))
      (pss_cons (ps_set (i := 3) nd rfl (.inl rfl) (pe_op op_mod (pe_callTy call_int1 rfl hint boot_int (pa_cons (pe_ix ix_seq (pv 0) pe_int (fun _ _ => rfl)) pa_nil)) (pe_callB call_len_seq rfl hlen boot_len (pa_cons (pv 2) pa_nil))))
      (pss_cons (ps_set (i := 4) nd rfl (.inl rfl) (pe_ix ix_seq (pv 2) (pv 3) (fun _ _ => rfl)))
      (pss_cons (ps_if (pt_cmpR op_ge (pv 4) pe_int (by rfl)) (pss_cons (ps_asg (pe_op op_fdivW (pv 4) (pv 1)) (pg_sub (pv 2) (pv 3) set_list)) (pss_one (ps_ret (pe_op op_mod (pe_callTy call_int1 rfl hint boot_int (pa_cons (pv 4) pa_nil)) (pv 1))))) pss_nil)
      (pss_cons (ps_asg (pe_op op_add (pe_ix ix_seq (pv 0) pe_int (fun _ _ => rfl)) pe_int) (pg_sub (pv 0) pe_int set_list))
      (pss_cons (ps_set (i := 5) nd rfl (.inl rfl) (pe_op op_mod (pe_callTy call_int1 rfl hint boot_int (pa_cons (pe_op op_add (pe_op op_mulW (pv 4) pe_int) (pe_op op_mulW (pe_ix ix_seq (pv 0) pe_int (fun _ _ => rfl)) pe_int)) pa_nil)) pe_int))
      (pss_cons (ps_set (i := 5) nd rfl (.inl rfl) (pe_op op_mod (pe_callTy call_int1 rfl hint boot_int (pa_cons (pe_op op_add (pe_op op_mulW (pv 5) pe_int) (pe_op op_mulW (pe_ix ix_seq (pv 0) pe_int (fun _ _ => rfl)) pe_int)) pa_nil)) pe_int))
      (pss_one (ps_ret (pe_op op_mod (pe_callTy call_int1 rfl hint boot_int (pa_cons (pe_op op_fdivW (pv 5) pe_int) pa_nil)) (pv 1)))))))))))
  case wish =>
    obtain ⟨pos, cells, b, rfl⟩ : ∃ pos cells b, as = [.tp pos cells, .dat (.int b)] := by
      cases e : takeF as with
      | none => rw [e] at hφ; exact hφ.elim
      | some r => exact takeF_form e
    obtain ⟨u0, u1, rfl⟩ : ∃ u0 u1, vs = [u0, u1] := by
      match vs, hl with
      | [u0, u1], _ => exact ⟨u0, u1, rfl⟩
    obtain ⟨_, _, hu, T, C, rfl, ne, gT, gC, hT, hC⟩ := s8.rel 0 _ rfl
    cases hu
    obtain ⟨_, _, hu, rb⟩ := s8.rel 1 _ rfl
    cases hu
    cases (show Dt K G _ (.int b) from rb)
    rw [show takeF [.tp pos cells, .dat (.int b)] = takeV pos cells b from rfl] at hφ
    unfold takeV at hφ
    refine ⟨_, rfl, b, 2, rfl, rfl, _, rfl, ?_⟩
    by_cases hb : b < 2
    · rw [if_pos hb] at hφ
      rw [if_pos (by simpa using hb)]
      exact hφ (.int 0) G H trivial (tape_post s8 ne gT gC hT hC hT hC (fun _ _ _ => rfl) 0)
    · rw [if_neg hb] at hφ
      rw [if_neg (by simpa using hb)]
      by_cases hg : cells = [] ∨ ¬ b ≤ 1000000000 ∨ pos < 0 ∨ ¬ pos ≤ 1000000000000
      · rw [if_pos hg] at hφ
        exact hφ.elim
      · rw [if_neg hg] at hφ
        simp only [not_or, Decidable.not_not, Int.not_lt] at hg
        obtain ⟨g1, g2, g3, g4⟩ := hg
        obtain ⟨at1, at2⟩ := atI_mod (pos := pos) g1
        have lT : ∀ {Hx : Hp} {p : Int}, Hx T = some (.lst [.int p, .ref C]) → SqL K Hx T [.int p, .ref C] := fun h => .inl (.inl h)
        have hlen0 : 0 < (cells.length : Int) := by
          have := List.length_pos_iff.mpr g1
          omega
        refine ⟨_, rfl, .inl ⟨T, [.int pos, .ref C], 1, .ref C, rfl, rfl, lT hT, rfl, ?_⟩⟩
        refine ⟨_, rfl, .inl ⟨T, [.int pos, .ref C], 0, .int pos, rfl, rfl, lT hT, rfl, ?_⟩⟩
        refine .inl ⟨pos, rfl, ?_⟩
        refine ⟨_, rfl, C, cells.map .int, rfl, .inl (.inl (.inl hC)), ?_⟩
        refine ⟨pos, _, rfl, rfl, by rw [List.length_map]; exact hlen0, ?_⟩
        rw [List.length_map]
        refine ⟨_, rfl, _, rfl, .inl ⟨C, cells.map .int, pos % cells.length, .int (cells.getD (pos % cells.length).toNat 0), rfl, rfl, .inl (.inl hC), at1, ?_⟩⟩
        generalize hcell : cells.getD (pos % (cells.length : Int)).toNat 0 = cell at hφ ⊢
        refine ⟨_, rfl, cell, 1000000000000000000, rfl, rfl, _, rfl, ?_⟩
        have b9 : b.natAbs < 2 ^ 30 := by omega
        show ite (decide (1000000000000000000 ≤ cell) = true) _ _
        by_cases hc : 1000000000000000000 ≤ cell
        · rw [if_pos hc] at hφ
          rw [if_pos (by simpa using hc)]
          refine ⟨_, rfl, _, rfl, cell, b, rfl, rfl, wide_div (by omega) b9 (by decide) (by decide), _, rfl, _, rfl, C, cells.map .int, pos % cells.length, (pos % (cells.length : Int)).toNat, rfl, rfl, hC, at2, ?_⟩
          refine ⟨_, rfl, .inl ⟨cell, rfl, _, rfl, cell, b, rfl, rfl, by omega, ?_⟩⟩
          have eC : (cells.map V.int).set (pos % (cells.length : Int)).toNat (.int (cell / b)) = (cells.set (pos % (cells.length : Int)).toNat (cell / b)).map V.int := by rw [List.map_set]
          exact hφ (.int (cell % b)) G _ trivial (tape_post s8 ne gT gC hT hC (by rw [upd_ne ne]; exact hT) (by rw [upd_same, eC]) (fun a h1 h2 => upd_ne h2) _)
        · rw [if_neg hc] at hφ
          rw [if_neg (by simpa using hc)]
          by_cases hneg : cell < 0
          · rw [if_pos hneg] at hφ
            exact hφ.elim
          · rw [if_neg hneg] at hφ
            have c9 : cell.natAbs < 2 ^ 60 := by omega
            have p9 : (pos + 1).natAbs < 2 ^ 50 := by omega
            refine ⟨_, rfl, .inl ⟨T, [.int pos, .ref C], 0, .int pos, rfl, rfl, lT hT, rfl, pos, 1, rfl, rfl, _, rfl, T, [.int pos, .ref C], 0, 0, rfl, rfl, hT, rfl, ?_⟩⟩
            have hT1 : upd H T (.lst [.int (pos + 1), .ref C]) T = some (.lst [.int (pos + 1), .ref C]) := upd_same
            show tSeq _ _ _ _ (upd H T (.lst [.int (pos + 1), .ref C]))
            refine ⟨_, rfl, cell, 48271, rfl, rfl, wide_mul c9 (show (48271 : Int).natAbs < 2 ^ 20 by decide) (by decide) (by decide) (by decide), _, rfl, .inl ⟨T, [.int (pos + 1), .ref C], 0, .int (pos + 1), rfl, rfl, lT hT1, rfl, pos + 1, 69621, rfl, rfl,
              wide_mul p9 (show (69621 : Int).natAbs < 2 ^ 20 by decide) (by decide) (by decide) (by decide), _, _, rfl, rfl, .inl ⟨_, rfl, _, _, rfl, rfl, show (0 : Int) < 2147483647 by decide, ?_⟩⟩⟩
            have m19 : ((cell * 48271 + (pos + 1) * 69621) % 2147483647).natAbs < 2 ^ 40 := by omega
            refine ⟨_, rfl, (cell * 48271 + (pos + 1) * 69621) % 2147483647, 16807, rfl, rfl, wide_mul m19 (show (16807 : Int).natAbs < 2 ^ 20 by decide) (by decide) (by decide) (by decide), _, rfl, .inl ⟨T, [.int (pos + 1), .ref C], 0, .int (pos + 1), rfl, rfl, lT hT1, rfl, pos + 1, 7919, rfl, rfl,
              wide_mul p9 (show (7919 : Int).natAbs < 2 ^ 20 by decide) (by decide) (by decide) (by decide), _, _, rfl, rfl, .inl ⟨_, rfl, _, _, rfl, rfl, show (0 : Int) < 1000000007 by decide, ?_⟩⟩⟩
            refine ⟨_, rfl, ((cell * 48271 + (pos + 1) * 69621) % 2147483647 * 16807 + (pos + 1) * 7919) % 1000000007, 7, rfl, rfl, wide_div (by decide) (show (7 : Int).natAbs < 2 ^ 10 by decide) (by decide) (by decide), .inl ⟨_, rfl, _, rfl, _, b, rfl, rfl, by omega, ?_⟩⟩
            exact hφ (.int _) G _ trivial (tape_post s8 ne gT gC hT hC hT1 (by rw [upd_ne (Ne.symm ne)]; exact hC) (fun a h1 h2 => upd_ne h1) _)
end
end PP.K03

end
section
set_option Elab.async false
set_option linter.all false
set_option maxRecDepth 100000
set_option maxHeartbeats 0
/-! printed by gen2.py: the table of k03_whole_kinds_that_end, the world, the head. -/
namespace PP.K03
open PySem PySem.Spec PyProof.Rows L2 PP
noncomputable def step (Φ : Phi) : Phi := fun f =>
  if f = "divisor" then (runFn 2 N_divisor.length (b_divisor Φ)) else
  if f = "part" then (runFn 2 N_part.length (b_part Φ)) else
  if f = "is_part" then (runFn 1 N_is_part.length (b_is_part Φ)) else
  if f = "is_chance" then (runFn 1 N_is_chance.length (b_is_chance Φ)) else
  if f = "plus" then (runFn 2 N_plus.length (b_plus Φ)) else
  if f = "total" then (runFn 1 N_total.length (b_total Φ)) else
  if f = "is_name" then (runFn 1 N_is_name.length (b_is_name Φ)) else
  if f = "is_whole" then (runFn 3 N_is_whole.length (b_is_whole Φ)) else
  if f = "is_lot" then (runFn 3 N_is_lot.length (b_is_lot Φ)) else
  if f = "are_litters" then (runFn 2 N_are_litters.length (b_are_litters Φ)) else
  if f = "is_book" then (runFn 1 N_is_book.length (b_is_book Φ)) else
  if f = "one_of" then (runFn 2 N_one_of.length (b_one_of Φ)) else
  if f = "nothing" then (runFn 1 N_nothing.length (b_nothing Φ)) else
  if f = "together" then (runFn 2 N_together.length (b_together Φ)) else
  if f = "has" then (runFn 2 N_has.length (b_has Φ)) else
  if f = "children" then (runFn 2 N_children.length (b_children Φ)) else
  if f = "reached" then (runFn 2 N_reached.length (b_reached Φ)) else
  if f = "started" then (runFn 1 N_started.length (b_started Φ)) else
  if f = "with_start" then (runFn 2 N_with_start.length (b_with_start Φ)) else
  if f = "sorted_litters" then (runFn 1 N_sorted_litters.length (b_sorted_litters Φ)) else
  if f = "can_end" then (runFn 1 N_can_end.length (b_can_end Φ)) else
  if f = "ends_by" then (runFn 3 N_ends_by.length (b_ends_by Φ)) else
  if f = "endless" then (runFn 1 N_endless.length (b_endless Φ)) else
  if f = "accepts_endless" then (runFn 3 N_accepts_endless.length (b_accepts_endless Φ)) else
  if f = "lots_of" then (runFn 1 N_lots_of.length (b_lots_of Φ)) else
  if f = "is_circling" then (runFn 2 N_is_circling.length (b_is_circling Φ)) else
  if f = "is_plain" then (runFn 2 N_is_plain.length (b_is_plain Φ)) else
  if f = "_law_state" then (runFn 1 N__law_state.length (b__law_state Φ)) else
  if f = "_law_take" then takeF else
  if f = "_law_fr" then (runFn 2 N__law_fr.length (b__law_fr Φ)) else
  if f = "_law_add" then (runFn 2 N__law_add.length (b__law_add Φ)) else
  if f = "_law_lot" then (runFn 3 N__law_lot.length (b__law_lot Φ)) else
  if f = "_law_litters" then (runFn 3 N__law_litters.length (b__law_litters Φ)) else
  if f = "_law_ordered" then (runFn 2 N__law_ordered.length (b__law_ordered Φ)) else
  if f = "_law_book" then (runFn 2 N__law_book.length (b__law_book Φ)) else
  if f = "_law_comes" then (runFn 2 N__law_comes.length (b__law_comes Φ)) else
  if f = "_law_lots" then (runFn 1 N__law_lots.length (b__law_lots Φ)) else
  if f = "_law_turns_back" then (runFn 2 N__law_turns_back.length (b__law_turns_back Φ)) else
  if f = "_law_odd" then (runFn 2 N__law_odd.length (b__law_odd Φ)) else
  if f = "_law_rows" then (runFn 2 N__law_rows.length (b__law_rows Φ)) else
  if f = "_law_ends" then (runFn 2 N__law_ends.length (b__law_ends Φ)) else
  if f = "_law_things" then (runFn 3 N__law_things.length (b__law_things Φ)) else
  if f = "law" then (runFn 1 N_law.length (b_law Φ)) else
  fun _ => none
noncomputable def tab : Nat → Phi
  | 0 => fun _ _ => none
  | k + 1 => step (tab k)
theorem tab_divisor (k : Nat) : tab (k + 1) "divisor" = runFn 2 N_divisor.length (b_divisor (tab k)) := by
  show step (tab k) "divisor" = _
  unfold step
  simp only [String.reduceEq, if_true, if_false, reduceIte]
theorem tab_part (k : Nat) : tab (k + 1) "part" = runFn 2 N_part.length (b_part (tab k)) := by
  show step (tab k) "part" = _
  unfold step
  simp only [String.reduceEq, if_true, if_false, reduceIte]
theorem tab_is_part (k : Nat) : tab (k + 1) "is_part" = runFn 1 N_is_part.length (b_is_part (tab k)) := by
  show step (tab k) "is_part" = _
  unfold step
  simp only [String.reduceEq, if_true, if_false, reduceIte]
theorem tab_is_chance (k : Nat) : tab (k + 1) "is_chance" = runFn 1 N_is_chance.length (b_is_chance (tab k)) := by
  show step (tab k) "is_chance" = _
  unfold step
  simp only [String.reduceEq, if_true, if_false, reduceIte]
theorem tab_plus (k : Nat) : tab (k + 1) "plus" = runFn 2 N_plus.length (b_plus (tab k)) := by
  show step (tab k) "plus" = _
  unfold step
  simp only [String.reduceEq, if_true, if_false, reduceIte]
theorem tab_total (k : Nat) : tab (k + 1) "total" = runFn 1 N_total.length (b_total (tab k)) := by
  show step (tab k) "total" = _
  unfold step
  simp only [String.reduceEq, if_true, if_false, reduceIte]
theorem tab_is_name (k : Nat) : tab (k + 1) "is_name" = runFn 1 N_is_name.length (b_is_name (tab k)) := by
  show step (tab k) "is_name" = _
  unfold step
  simp only [String.reduceEq, if_true, if_false, reduceIte]
theorem tab_is_whole (k : Nat) : tab (k + 1) "is_whole" = runFn 3 N_is_whole.length (b_is_whole (tab k)) := by
  show step (tab k) "is_whole" = _
  unfold step
  simp only [String.reduceEq, if_true, if_false, reduceIte]
theorem tab_is_lot (k : Nat) : tab (k + 1) "is_lot" = runFn 3 N_is_lot.length (b_is_lot (tab k)) := by
  show step (tab k) "is_lot" = _
  unfold step
  simp only [String.reduceEq, if_true, if_false, reduceIte]
theorem tab_are_litters (k : Nat) : tab (k + 1) "are_litters" = runFn 2 N_are_litters.length (b_are_litters (tab k)) := by
  show step (tab k) "are_litters" = _
  unfold step
  simp only [String.reduceEq, if_true, if_false, reduceIte]
theorem tab_is_book (k : Nat) : tab (k + 1) "is_book" = runFn 1 N_is_book.length (b_is_book (tab k)) := by
  show step (tab k) "is_book" = _
  unfold step
  simp only [String.reduceEq, if_true, if_false, reduceIte]
theorem tab_one_of (k : Nat) : tab (k + 1) "one_of" = runFn 2 N_one_of.length (b_one_of (tab k)) := by
  show step (tab k) "one_of" = _
  unfold step
  simp only [String.reduceEq, if_true, if_false, reduceIte]
theorem tab_nothing (k : Nat) : tab (k + 1) "nothing" = runFn 1 N_nothing.length (b_nothing (tab k)) := by
  show step (tab k) "nothing" = _
  unfold step
  simp only [String.reduceEq, if_true, if_false, reduceIte]
theorem tab_together (k : Nat) : tab (k + 1) "together" = runFn 2 N_together.length (b_together (tab k)) := by
  show step (tab k) "together" = _
  unfold step
  simp only [String.reduceEq, if_true, if_false, reduceIte]
theorem tab_has (k : Nat) : tab (k + 1) "has" = runFn 2 N_has.length (b_has (tab k)) := by
  show step (tab k) "has" = _
  unfold step
  simp only [String.reduceEq, if_true, if_false, reduceIte]
theorem tab_children (k : Nat) : tab (k + 1) "children" = runFn 2 N_children.length (b_children (tab k)) := by
  show step (tab k) "children" = _
  unfold step
  simp only [String.reduceEq, if_true, if_false, reduceIte]
theorem tab_reached (k : Nat) : tab (k + 1) "reached" = runFn 2 N_reached.length (b_reached (tab k)) := by
  show step (tab k) "reached" = _
  unfold step
  simp only [String.reduceEq, if_true, if_false, reduceIte]
theorem tab_started (k : Nat) : tab (k + 1) "started" = runFn 1 N_started.length (b_started (tab k)) := by
  show step (tab k) "started" = _
  unfold step
  simp only [String.reduceEq, if_true, if_false, reduceIte]
theorem tab_with_start (k : Nat) : tab (k + 1) "with_start" = runFn 2 N_with_start.length (b_with_start (tab k)) := by
  show step (tab k) "with_start" = _
  unfold step
  simp only [String.reduceEq, if_true, if_false, reduceIte]
theorem tab_sorted_litters (k : Nat) : tab (k + 1) "sorted_litters" = runFn 1 N_sorted_litters.length (b_sorted_litters (tab k)) := by
  show step (tab k) "sorted_litters" = _
  unfold step
  simp only [String.reduceEq, if_true, if_false, reduceIte]
theorem tab_can_end (k : Nat) : tab (k + 1) "can_end" = runFn 1 N_can_end.length (b_can_end (tab k)) := by
  show step (tab k) "can_end" = _
  unfold step
  simp only [String.reduceEq, if_true, if_false, reduceIte]
theorem tab_ends_by (k : Nat) : tab (k + 1) "ends_by" = runFn 3 N_ends_by.length (b_ends_by (tab k)) := by
  show step (tab k) "ends_by" = _
  unfold step
  simp only [String.reduceEq, if_true, if_false, reduceIte]
theorem tab_endless (k : Nat) : tab (k + 1) "endless" = runFn 1 N_endless.length (b_endless (tab k)) := by
  show step (tab k) "endless" = _
  unfold step
  simp only [String.reduceEq, if_true, if_false, reduceIte]
theorem tab_accepts_endless (k : Nat) : tab (k + 1) "accepts_endless" = runFn 3 N_accepts_endless.length (b_accepts_endless (tab k)) := by
  show step (tab k) "accepts_endless" = _
  unfold step
  simp only [String.reduceEq, if_true, if_false, reduceIte]
theorem tab_lots_of (k : Nat) : tab (k + 1) "lots_of" = runFn 1 N_lots_of.length (b_lots_of (tab k)) := by
  show step (tab k) "lots_of" = _
  unfold step
  simp only [String.reduceEq, if_true, if_false, reduceIte]
theorem tab_is_circling (k : Nat) : tab (k + 1) "is_circling" = runFn 2 N_is_circling.length (b_is_circling (tab k)) := by
  show step (tab k) "is_circling" = _
  unfold step
  simp only [String.reduceEq, if_true, if_false, reduceIte]
theorem tab_is_plain (k : Nat) : tab (k + 1) "is_plain" = runFn 2 N_is_plain.length (b_is_plain (tab k)) := by
  show step (tab k) "is_plain" = _
  unfold step
  simp only [String.reduceEq, if_true, if_false, reduceIte]
theorem tab__law_state (k : Nat) : tab (k + 1) "_law_state" = runFn 1 N__law_state.length (b__law_state (tab k)) := by
  show step (tab k) "_law_state" = _
  unfold step
  simp only [String.reduceEq, if_true, if_false, reduceIte]
theorem tab__law_take (k : Nat) : tab (k + 1) "_law_take" = takeF := by
  show step (tab k) "_law_take" = _
  unfold step
  simp only [String.reduceEq, if_true, if_false, reduceIte]
theorem tab__law_fr (k : Nat) : tab (k + 1) "_law_fr" = runFn 2 N__law_fr.length (b__law_fr (tab k)) := by
  show step (tab k) "_law_fr" = _
  unfold step
  simp only [String.reduceEq, if_true, if_false, reduceIte]
theorem tab__law_add (k : Nat) : tab (k + 1) "_law_add" = runFn 2 N__law_add.length (b__law_add (tab k)) := by
  show step (tab k) "_law_add" = _
  unfold step
  simp only [String.reduceEq, if_true, if_false, reduceIte]
theorem tab__law_lot (k : Nat) : tab (k + 1) "_law_lot" = runFn 3 N__law_lot.length (b__law_lot (tab k)) := by
  show step (tab k) "_law_lot" = _
  unfold step
  simp only [String.reduceEq, if_true, if_false, reduceIte]
theorem tab__law_litters (k : Nat) : tab (k + 1) "_law_litters" = runFn 3 N__law_litters.length (b__law_litters (tab k)) := by
  show step (tab k) "_law_litters" = _
  unfold step
  simp only [String.reduceEq, if_true, if_false, reduceIte]
theorem tab__law_ordered (k : Nat) : tab (k + 1) "_law_ordered" = runFn 2 N__law_ordered.length (b__law_ordered (tab k)) := by
  show step (tab k) "_law_ordered" = _
  unfold step
  simp only [String.reduceEq, if_true, if_false, reduceIte]
theorem tab__law_book (k : Nat) : tab (k + 1) "_law_book" = runFn 2 N__law_book.length (b__law_book (tab k)) := by
  show step (tab k) "_law_book" = _
  unfold step
  simp only [String.reduceEq, if_true, if_false, reduceIte]
theorem tab__law_comes (k : Nat) : tab (k + 1) "_law_comes" = runFn 2 N__law_comes.length (b__law_comes (tab k)) := by
  show step (tab k) "_law_comes" = _
  unfold step
  simp only [String.reduceEq, if_true, if_false, reduceIte]
theorem tab__law_lots (k : Nat) : tab (k + 1) "_law_lots" = runFn 1 N__law_lots.length (b__law_lots (tab k)) := by
  show step (tab k) "_law_lots" = _
  unfold step
  simp only [String.reduceEq, if_true, if_false, reduceIte]
theorem tab__law_turns_back (k : Nat) : tab (k + 1) "_law_turns_back" = runFn 2 N__law_turns_back.length (b__law_turns_back (tab k)) := by
  show step (tab k) "_law_turns_back" = _
  unfold step
  simp only [String.reduceEq, if_true, if_false, reduceIte]
theorem tab__law_odd (k : Nat) : tab (k + 1) "_law_odd" = runFn 2 N__law_odd.length (b__law_odd (tab k)) := by
  show step (tab k) "_law_odd" = _
  unfold step
  simp only [String.reduceEq, if_true, if_false, reduceIte]
theorem tab__law_rows (k : Nat) : tab (k + 1) "_law_rows" = runFn 2 N__law_rows.length (b__law_rows (tab k)) := by
  show step (tab k) "_law_rows" = _
  unfold step
  simp only [String.reduceEq, if_true, if_false, reduceIte]
theorem tab__law_ends (k : Nat) : tab (k + 1) "_law_ends" = runFn 2 N__law_ends.length (b__law_ends (tab k)) := by
  show step (tab k) "_law_ends" = _
  unfold step
  simp only [String.reduceEq, if_true, if_false, reduceIte]
theorem tab__law_things (k : Nat) : tab (k + 1) "_law_things" = runFn 3 N__law_things.length (b__law_things (tab k)) := by
  show step (tab k) "_law_things" = _
  unfold step
  simp only [String.reduceEq, if_true, if_false, reduceIte]
theorem tab_law (k : Nat) : tab (k + 1) "law" = runFn 1 N_law.length (b_law (tab k)) := by
  show step (tab k) "law" = _
  unfold step
  simp only [String.reduceEq, if_true, if_false, reduceIte]
theorem vac {P : Program} {w : World} {K : PySem.W.Frag} {mg : Str → Option Value} {base : Heap} {k n : Nat} {a : Addr} {fd : FuncData} {ps : List Str} {xr : XR} (h : ps.length = n) : FnOk P w K mg base (L2.CX P w) k a fd ps (spOf xr n K fun _ => none) :=
  ⟨fun vs H Q E h1 => h1.1.trans h.symm, fun A outer s H args us vs Q E hr he hb hv hs => by
    obtain ⟨_, G, as, _, z⟩ := hs
    exact z.elim⟩
section
variable {P : Program} {w : World} {K : PySem.W.Frag} {mg : Str → Option Value} {base : Heap}
def FnX (P : Program) (w : World) (K : PySem.W.Frag) (mg : Str → Option Value) (base : Heap) (k : Nat) (f : String × Nat) : Prop := ∃ (a : Addr) (fd : FuncData) (ps : List Str), FnOk P w K mg base (L2.CX P w) k a fd ps (spOf (fun _ _ _ _ => False) f.2 K (tab k f.1)) ∧ mg ((f.1 : String) : Str) = some (.ref a) ∧ PySem.W.keepIn K (.ref a) = true ∧ Binds K fd ps []
theorem fx_divisor (k : Nat) {a : Addr} {fd : FuncData} (F : FunD K "divisor" "divisor" (defArgs st_divisor) (defBody st_divisor) (defScope st_divisor) [] [] a fd) (hm : mg ("divisor" : Str) = some (.ref a)) (wl : Wld (gam (tab k) k) P w K mg base) : FnX P w K mg base (k + 1) ("divisor", 2) := by
  refine ⟨a, fd, ["one", "other"], ?_, hm, F.kp, F.bindsN fun _ _ _ _ _ _ us hl => match us, hl with | [_, _], _ => rfl⟩
  show FnOk P w K mg base (L2.CX P w) (k + 1) a fd ["one", "other"] (spOf _ 2 K (tab (k + 1) "divisor"))
  rw [tab_divisor]
  exact fn_sound F sc_divisor rfl wl (s_divisor (tab k) k)
theorem fx_part (k : Nat) {a : Addr} {fd : FuncData} (F : FunD K "part" "part" (defArgs st_part) (defBody st_part) (defScope st_part) [] [] a fd) (hm : mg ("part" : Str) = some (.ref a)) (wl : Wld (gam (tab k) k) P w K mg base) : FnX P w K mg base (k + 1) ("part", 2) := by
  refine ⟨a, fd, ["above", "below"], ?_, hm, F.kp, F.bindsN fun _ _ _ _ _ _ us hl => match us, hl with | [_, _], _ => rfl⟩
  show FnOk P w K mg base (L2.CX P w) (k + 1) a fd ["above", "below"] (spOf _ 2 K (tab (k + 1) "part"))
  rw [tab_part]
  exact fn_sound F sc_part rfl wl (s_part (tab k) k)
theorem fx_is_part (k : Nat) {a : Addr} {fd : FuncData} (F : FunD K "is_part" "is_part" (defArgs st_is_part) (defBody st_is_part) (defScope st_is_part) [] [] a fd) (hm : mg ("is_part" : Str) = some (.ref a)) (wl : Wld (gam (tab k) k) P w K mg base) : FnX P w K mg base (k + 1) ("is_part", 1) := by
  refine ⟨a, fd, ["value"], ?_, hm, F.kp, F.bindsN fun _ _ _ _ _ _ us hl => match us, hl with | [_], _ => rfl⟩
  show FnOk P w K mg base (L2.CX P w) (k + 1) a fd ["value"] (spOf _ 1 K (tab (k + 1) "is_part"))
  rw [tab_is_part]
  exact fn_sound F sc_is_part rfl wl (s_is_part (tab k) k)
theorem fx_is_chance (k : Nat) {a : Addr} {fd : FuncData} (F : FunD K "is_chance" "is_chance" (defArgs st_is_chance) (defBody st_is_chance) (defScope st_is_chance) [] [] a fd) (hm : mg ("is_chance" : Str) = some (.ref a)) (wl : Wld (gam (tab k) k) P w K mg base) : FnX P w K mg base (k + 1) ("is_chance", 1) := by
  refine ⟨a, fd, ["value"], ?_, hm, F.kp, F.bindsN fun _ _ _ _ _ _ us hl => match us, hl with | [_], _ => rfl⟩
  show FnOk P w K mg base (L2.CX P w) (k + 1) a fd ["value"] (spOf _ 1 K (tab (k + 1) "is_chance"))
  rw [tab_is_chance]
  exact fn_sound F sc_is_chance rfl wl (s_is_chance (tab k) k)
theorem fx_plus (k : Nat) {a : Addr} {fd : FuncData} (F : FunD K "plus" "plus" (defArgs st_plus) (defBody st_plus) (defScope st_plus) [] [] a fd) (hm : mg ("plus" : Str) = some (.ref a)) (wl : Wld (gam (tab k) k) P w K mg base) : FnX P w K mg base (k + 1) ("plus", 2) := by
  refine ⟨a, fd, ["one", "other"], ?_, hm, F.kp, F.bindsN fun _ _ _ _ _ _ us hl => match us, hl with | [_, _], _ => rfl⟩
  show FnOk P w K mg base (L2.CX P w) (k + 1) a fd ["one", "other"] (spOf _ 2 K (tab (k + 1) "plus"))
  rw [tab_plus]
  exact fn_sound F sc_plus rfl wl (s_plus (tab k) k)
theorem fx_total (k : Nat) {a : Addr} {fd : FuncData} (F : FunD K "total" "total" (defArgs st_total) (defBody st_total) (defScope st_total) [] [] a fd) (hm : mg ("total" : Str) = some (.ref a)) (wl : Wld (gam (tab k) k) P w K mg base) : FnX P w K mg base (k + 1) ("total", 1) := by
  refine ⟨a, fd, ["row"], ?_, hm, F.kp, F.bindsN fun _ _ _ _ _ _ us hl => match us, hl with | [_], _ => rfl⟩
  show FnOk P w K mg base (L2.CX P w) (k + 1) a fd ["row"] (spOf _ 1 K (tab (k + 1) "total"))
  rw [tab_total]
  exact fn_sound F sc_total rfl wl (s_total (tab k) k)
theorem fx_is_name (k : Nat) {a : Addr} {fd : FuncData} (F : FunD K "is_name" "is_name" (defArgs st_is_name) (defBody st_is_name) (defScope st_is_name) [] [] a fd) (hm : mg ("is_name" : Str) = some (.ref a)) (wl : Wld (gam (tab k) k) P w K mg base) : FnX P w K mg base (k + 1) ("is_name", 1) := by
  refine ⟨a, fd, ["value"], ?_, hm, F.kp, F.bindsN fun _ _ _ _ _ _ us hl => match us, hl with | [_], _ => rfl⟩
  show FnOk P w K mg base (L2.CX P w) (k + 1) a fd ["value"] (spOf _ 1 K (tab (k + 1) "is_name"))
  rw [tab_is_name]
  exact fn_sound F sc_is_name rfl wl (s_is_name (tab k) k)
theorem fx_is_whole (k : Nat) {a : Addr} {fd : FuncData} (F : FunD K "is_whole" "is_whole" (defArgs st_is_whole) (defBody st_is_whole) (defScope st_is_whole) [] [] a fd) (hm : mg ("is_whole" : Str) = some (.ref a)) (wl : Wld (gam (tab k) k) P w K mg base) : FnX P w K mg base (k + 1) ("is_whole", 3) := by
  refine ⟨a, fd, ["value", "low", "high"], ?_, hm, F.kp, F.bindsN fun _ _ _ _ _ _ us hl => match us, hl with | [_, _, _], _ => rfl⟩
  show FnOk P w K mg base (L2.CX P w) (k + 1) a fd ["value", "low", "high"] (spOf _ 3 K (tab (k + 1) "is_whole"))
  rw [tab_is_whole]
  exact fn_sound F sc_is_whole rfl wl (s_is_whole (tab k) k)
theorem fx_is_lot (k : Nat) {a : Addr} {fd : FuncData} (F : FunD K "is_lot" "is_lot" (defArgs st_is_lot) (defBody st_is_lot) (defScope st_is_lot) [] [] a fd) (hm : mg ("is_lot" : Str) = some (.ref a)) (wl : Wld (gam (tab k) k) P w K mg base) : FnX P w K mg base (k + 1) ("is_lot", 3) := by
  refine ⟨a, fd, ["value", "many", "most"], ?_, hm, F.kp, F.bindsN fun _ _ _ _ _ _ us hl => match us, hl with | [_, _, _], _ => rfl⟩
  show FnOk P w K mg base (L2.CX P w) (k + 1) a fd ["value", "many", "most"] (spOf _ 3 K (tab (k + 1) "is_lot"))
  rw [tab_is_lot]
  exact fn_sound F sc_is_lot rfl wl (s_is_lot (tab k) k)
theorem fx_are_litters (k : Nat) {a : Addr} {fd : FuncData} (F : FunD K "are_litters" "are_litters" (defArgs st_are_litters) (defBody st_are_litters) (defScope st_are_litters) [] [] a fd) (hm : mg ("are_litters" : Str) = some (.ref a)) (wl : Wld (gam (tab k) k) P w K mg base) : FnX P w K mg base (k + 1) ("are_litters", 2) := by
  refine ⟨a, fd, ["value", "many"], ?_, hm, F.kp, F.bindsN fun _ _ _ _ _ _ us hl => match us, hl with | [_, _], _ => rfl⟩
  show FnOk P w K mg base (L2.CX P w) (k + 1) a fd ["value", "many"] (spOf _ 2 K (tab (k + 1) "are_litters"))
  rw [tab_are_litters]
  exact fn_sound F sc_are_litters rfl wl (s_are_litters (tab k) k)
theorem fx_is_book (k : Nat) {a : Addr} {fd : FuncData} (F : FunD K "is_book" "is_book" (defArgs st_is_book) (defBody st_is_book) (defScope st_is_book) [] [] a fd) (hm : mg ("is_book" : Str) = some (.ref a)) (wl : Wld (gam (tab k) k) P w K mg base) : FnX P w K mg base (k + 1) ("is_book", 1) := by
  refine ⟨a, fd, ["value"], ?_, hm, F.kp, F.bindsN fun _ _ _ _ _ _ us hl => match us, hl with | [_], _ => rfl⟩
  show FnOk P w K mg base (L2.CX P w) (k + 1) a fd ["value"] (spOf _ 1 K (tab (k + 1) "is_book"))
  rw [tab_is_book]
  exact fn_sound F sc_is_book rfl wl (s_is_book (tab k) k)
theorem fx_one_of (k : Nat) {a : Addr} {fd : FuncData} (F : FunD K "one_of" "one_of" (defArgs st_one_of) (defBody st_one_of) (defScope st_one_of) [] [] a fd) (hm : mg ("one_of" : Str) = some (.ref a)) (wl : Wld (gam (tab k) k) P w K mg base) : FnX P w K mg base (k + 1) ("one_of", 2) := by
  refine ⟨a, fd, ["book", "kind"], ?_, hm, F.kp, F.bindsN fun _ _ _ _ _ _ us hl => match us, hl with | [_, _], _ => rfl⟩
  show FnOk P w K mg base (L2.CX P w) (k + 1) a fd ["book", "kind"] (spOf _ 2 K (tab (k + 1) "one_of"))
  rw [tab_one_of]
  exact fn_sound F sc_one_of rfl wl (s_one_of (tab k) k)
theorem fx_nothing (k : Nat) {a : Addr} {fd : FuncData} (F : FunD K "nothing" "nothing" (defArgs st_nothing) (defBody st_nothing) (defScope st_nothing) [] [] a fd) (hm : mg ("nothing" : Str) = some (.ref a)) (wl : Wld (gam (tab k) k) P w K mg base) : FnX P w K mg base (k + 1) ("nothing", 1) := by
  refine ⟨a, fd, ["book"], ?_, hm, F.kp, F.bindsN fun _ _ _ _ _ _ us hl => match us, hl with | [_], _ => rfl⟩
  show FnOk P w K mg base (L2.CX P w) (k + 1) a fd ["book"] (spOf _ 1 K (tab (k + 1) "nothing"))
  rw [tab_nothing]
  exact fn_sound F sc_nothing rfl wl (s_nothing (tab k) k)
theorem fx_together (k : Nat) {a : Addr} {fd : FuncData} (F : FunD K "together" "together" (defArgs st_together) (defBody st_together) (defScope st_together) [] [] a fd) (hm : mg ("together" : Str) = some (.ref a)) (wl : Wld (gam (tab k) k) P w K mg base) : FnX P w K mg base (k + 1) ("together", 2) := by
  refine ⟨a, fd, ["one", "other"], ?_, hm, F.kp, F.bindsN fun _ _ _ _ _ _ us hl => match us, hl with | [_, _], _ => rfl⟩
  show FnOk P w K mg base (L2.CX P w) (k + 1) a fd ["one", "other"] (spOf _ 2 K (tab (k + 1) "together"))
  rw [tab_together]
  exact fn_sound F sc_together rfl wl (s_together (tab k) k)
theorem fx_has (k : Nat) {a : Addr} {fd : FuncData} (F : FunD K "has" "has" (defArgs st_has) (defBody st_has) (defScope st_has) [] [] a fd) (hm : mg ("has" : Str) = some (.ref a)) (wl : Wld (gam (tab k) k) P w K mg base) : FnX P w K mg base (k + 1) ("has", 2) := by
  refine ⟨a, fd, ["lot", "kinds"], ?_, hm, F.kp, F.bindsN fun _ _ _ _ _ _ us hl => match us, hl with | [_, _], _ => rfl⟩
  show FnOk P w K mg base (L2.CX P w) (k + 1) a fd ["lot", "kinds"] (spOf _ 2 K (tab (k + 1) "has"))
  rw [tab_has]
  exact fn_sound F sc_has rfl wl (s_has (tab k) k)
theorem fx_children (k : Nat) {a : Addr} {fd : FuncData} (F : FunD K "children" "children" (defArgs st_children) (defBody st_children) (defScope st_children) [] [] a fd) (hm : mg ("children" : Str) = some (.ref a)) (wl : Wld (gam (tab k) k) P w K mg base) : FnX P w K mg base (k + 1) ("children", 2) := by
  refine ⟨a, fd, ["book", "kind"], ?_, hm, F.kp, F.bindsN fun _ _ _ _ _ _ us hl => match us, hl with | [_, _], _ => rfl⟩
  show FnOk P w K mg base (L2.CX P w) (k + 1) a fd ["book", "kind"] (spOf _ 2 K (tab (k + 1) "children"))
  rw [tab_children]
  exact fn_sound F sc_children rfl wl (s_children (tab k) k)
theorem fx_reached (k : Nat) {a : Addr} {fd : FuncData} (F : FunD K "reached" "reached" (defArgs st_reached) (defBody st_reached) (defScope st_reached) [] [] a fd) (hm : mg ("reached" : Str) = some (.ref a)) (wl : Wld (gam (tab k) k) P w K mg base) : FnX P w K mg base (k + 1) ("reached", 2) := by
  refine ⟨a, fd, ["book", "kinds"], ?_, hm, F.kp, F.bindsN fun _ _ _ _ _ _ us hl => match us, hl with | [_, _], _ => rfl⟩
  show FnOk P w K mg base (L2.CX P w) (k + 1) a fd ["book", "kinds"] (spOf _ 2 K (tab (k + 1) "reached"))
  rw [tab_reached]
  exact fn_sound F sc_reached rfl wl (s_reached (tab k) k)
theorem fx_started (k : Nat) {a : Addr} {fd : FuncData} (F : FunD K "started" "started" (defArgs st_started) (defBody st_started) (defScope st_started) [] [] a fd) (hm : mg ("started" : Str) = some (.ref a)) (wl : Wld (gam (tab k) k) P w K mg base) : FnX P w K mg base (k + 1) ("started", 1) := by
  refine ⟨a, fd, ["book"], ?_, hm, F.kp, F.bindsN fun _ _ _ _ _ _ us hl => match us, hl with | [_], _ => rfl⟩
  show FnOk P w K mg base (L2.CX P w) (k + 1) a fd ["book"] (spOf _ 1 K (tab (k + 1) "started"))
  rw [tab_started]
  exact fn_sound F sc_started rfl wl (s_started (tab k) k)
theorem fx_with_start (k : Nat) {a : Addr} {fd : FuncData} (F : FunD K "with_start" "with_start" (defArgs st_with_start) (defBody st_with_start) (defScope st_with_start) [] [] a fd) (hm : mg ("with_start" : Str) = some (.ref a)) (wl : Wld (gam (tab k) k) P w K mg base) : FnX P w K mg base (k + 1) ("with_start", 2) := by
  refine ⟨a, fd, ["book", "lot"], ?_, hm, F.kp, F.bindsN fun _ _ _ _ _ _ us hl => match us, hl with | [_, _], _ => rfl⟩
  show FnOk P w K mg base (L2.CX P w) (k + 1) a fd ["book", "lot"] (spOf _ 2 K (tab (k + 1) "with_start"))
  rw [tab_with_start]
  exact fn_sound F sc_with_start rfl wl (s_with_start (tab k) k)
theorem fx_sorted_litters (k : Nat) {a : Addr} {fd : FuncData} (F : FunD K "sorted_litters" "sorted_litters" (defArgs st_sorted_litters) (defBody st_sorted_litters) (defScope st_sorted_litters) [] [] a fd) (hm : mg ("sorted_litters" : Str) = some (.ref a)) (wl : Wld (gam (tab k) k) P w K mg base) : FnX P w K mg base (k + 1) ("sorted_litters", 1) := by
  refine ⟨a, fd, ["rows"], ?_, hm, F.kp, F.bindsN fun _ _ _ _ _ _ us hl => match us, hl with | [_], _ => rfl⟩
  show FnOk P w K mg base (L2.CX P w) (k + 1) a fd ["rows"] (spOf _ 1 K (tab (k + 1) "sorted_litters"))
  rw [tab_sorted_litters]
  exact fn_sound F sc_sorted_litters rfl wl (s_sorted_litters (tab k) k)
theorem fx_can_end (k : Nat) {a : Addr} {fd : FuncData} (F : FunD K "can_end" "can_end" (defArgs st_can_end) (defBody st_can_end) (defScope st_can_end) [] [] a fd) (hm : mg ("can_end" : Str) = some (.ref a)) (wl : Wld (gam (tab k) k) P w K mg base) : FnX P w K mg base (k + 1) ("can_end", 1) := by
  refine ⟨a, fd, ["book"], ?_, hm, F.kp, F.bindsN fun _ _ _ _ _ _ us hl => match us, hl with | [_], _ => rfl⟩
  show FnOk P w K mg base (L2.CX P w) (k + 1) a fd ["book"] (spOf _ 1 K (tab (k + 1) "can_end"))
  rw [tab_can_end]
  exact fn_sound F sc_can_end rfl wl (s_can_end (tab k) k)
theorem fx_ends_by (k : Nat) {a : Addr} {fd : FuncData} (F : FunD K "ends_by" "ends_by" (defArgs st_ends_by) (defBody st_ends_by) (defScope st_ends_by) [] [] a fd) (hm : mg ("ends_by" : Str) = some (.ref a)) (wl : Wld (gam (tab k) k) P w K mg base) : FnX P w K mg base (k + 1) ("ends_by", 3) := by
  refine ⟨a, fd, ["book", "kind", "found"], ?_, hm, F.kp, F.bindsN fun _ _ _ _ _ _ us hl => match us, hl with | [_, _, _], _ => rfl⟩
  show FnOk P w K mg base (L2.CX P w) (k + 1) a fd ["book", "kind", "found"] (spOf _ 3 K (tab (k + 1) "ends_by"))
  rw [tab_ends_by]
  exact fn_sound F sc_ends_by rfl wl (s_ends_by (tab k) k)
theorem fx_endless (k : Nat) {a : Addr} {fd : FuncData} (F : FunD K "endless" "endless" (defArgs st_endless) (defBody st_endless) (defScope st_endless) [] [] a fd) (hm : mg ("endless" : Str) = some (.ref a)) (wl : Wld (gam (tab k) k) P w K mg base) : FnX P w K mg base (k + 1) ("endless", 1) := by
  refine ⟨a, fd, ["book"], ?_, hm, F.kp, F.bindsN fun _ _ _ _ _ _ us hl => match us, hl with | [_], _ => rfl⟩
  show FnOk P w K mg base (L2.CX P w) (k + 1) a fd ["book"] (spOf _ 1 K (tab (k + 1) "endless"))
  rw [tab_endless]
  exact fn_sound F sc_endless rfl wl (s_endless (tab k) k)
theorem fx_accepts_endless (k : Nat) {a : Addr} {fd : FuncData} (F : FunD K "accepts_endless" "accepts_endless" (defArgs st_accepts_endless) (defBody st_accepts_endless) (defScope st_accepts_endless) [] [] a fd) (hm : mg ("accepts_endless" : Str) = some (.ref a)) (wl : Wld (gam (tab k) k) P w K mg base) : FnX P w K mg base (k + 1) ("accepts_endless", 3) := by
  refine ⟨a, fd, ["book", "kind", "value"], ?_, hm, F.kp, F.bindsN fun _ _ _ _ _ _ us hl => match us, hl with | [_, _, _], _ => rfl⟩
  show FnOk P w K mg base (L2.CX P w) (k + 1) a fd ["book", "kind", "value"] (spOf _ 3 K (tab (k + 1) "accepts_endless"))
  rw [tab_accepts_endless]
  exact fn_sound F sc_accepts_endless rfl wl (s_accepts_endless (tab k) k)
theorem fx_lots_of (k : Nat) {a : Addr} {fd : FuncData} (F : FunD K "lots_of" "lots_of" (defArgs st_lots_of) (defBody st_lots_of) (defScope st_lots_of) [] [] a fd) (hm : mg ("lots_of" : Str) = some (.ref a)) (wl : Wld (gam (tab k) k) P w K mg base) : FnX P w K mg base (k + 1) ("lots_of", 1) := by
  refine ⟨a, fd, ["book"], ?_, hm, F.kp, F.bindsN fun _ _ _ _ _ _ us hl => match us, hl with | [_], _ => rfl⟩
  show FnOk P w K mg base (L2.CX P w) (k + 1) a fd ["book"] (spOf _ 1 K (tab (k + 1) "lots_of"))
  rw [tab_lots_of]
  exact fn_sound F sc_lots_of rfl wl (s_lots_of (tab k) k)
theorem fx_is_circling (k : Nat) {a : Addr} {fd : FuncData} (F : FunD K "is_circling" "is_circling" (defArgs st_is_circling) (defBody st_is_circling) (defScope st_is_circling) [] [] a fd) (hm : mg ("is_circling" : Str) = some (.ref a)) (wl : Wld (gam (tab k) k) P w K mg base) : FnX P w K mg base (k + 1) ("is_circling", 2) := by
  refine ⟨a, fd, ["book", "lot"], ?_, hm, F.kp, F.bindsN fun _ _ _ _ _ _ us hl => match us, hl with | [_, _], _ => rfl⟩
  show FnOk P w K mg base (L2.CX P w) (k + 1) a fd ["book", "lot"] (spOf _ 2 K (tab (k + 1) "is_circling"))
  rw [tab_is_circling]
  exact fn_sound F sc_is_circling rfl wl (s_is_circling (tab k) k)
theorem fx_is_plain (k : Nat) {a : Addr} {fd : FuncData} (F : FunD K "is_plain" "is_plain" (defArgs st_is_plain) (defBody st_is_plain) (defScope st_is_plain) [] [] a fd) (hm : mg ("is_plain" : Str) = some (.ref a)) (wl : Wld (gam (tab k) k) P w K mg base) : FnX P w K mg base (k + 1) ("is_plain", 2) := by
  refine ⟨a, fd, ["book", "lot"], ?_, hm, F.kp, F.bindsN fun _ _ _ _ _ _ us hl => match us, hl with | [_, _], _ => rfl⟩
  show FnOk P w K mg base (L2.CX P w) (k + 1) a fd ["book", "lot"] (spOf _ 2 K (tab (k + 1) "is_plain"))
  rw [tab_is_plain]
  exact fn_sound F sc_is_plain rfl wl (s_is_plain (tab k) k)
theorem fx__law_state (k : Nat) {a : Addr} {fd : FuncData} (F : FunD K "_law_state" "_law_state" (defArgs st__law_state) (defBody st__law_state) (defScope st__law_state) [] [] a fd) (hm : mg ("_law_state" : Str) = some (.ref a)) (wl : Wld (gam (tab k) k) P w K mg base) : FnX P w K mg base (k + 1) ("_law_state", 1) := by
  refine ⟨a, fd, ["script"], ?_, hm, F.kp, F.bindsN fun _ _ _ _ _ _ us hl => match us, hl with | [_], _ => rfl⟩
  show FnOk P w K mg base (L2.CX P w) (k + 1) a fd ["script"] (spOf _ 1 K (tab (k + 1) "_law_state"))
  rw [tab__law_state]
  exact fn_sound F sc__law_state rfl wl (s__law_state (tab k) k)
theorem fx__law_take (k : Nat) {a : Addr} {fd : FuncData} (F : FunD K "_law_take" "_law_take" (defArgs st__law_take) (defBody st__law_take) (defScope st__law_take) [] [] a fd) (hm : mg ("_law_take" : Str) = some (.ref a)) (wl : Wld (gam (tab k) k) P w K mg base) : FnX P w K mg base (k + 1) ("_law_take", 2) := by
  refine ⟨a, fd, ["state", "bound"], ?_, hm, F.kp, F.bindsN fun _ _ _ _ _ _ us hl => match us, hl with | [_, _], _ => rfl⟩
  show FnOk P w K mg base (L2.CX P w) (k + 1) a fd ["state", "bound"] (spOf _ 2 K (tab (k + 1) "_law_take"))
  rw [tab__law_take]
  exact ok_take F (wl.bl "len" (List.mem_of_getElem? (i := 0) rfl)) (wl.bl "int" (List.mem_of_getElem? (i := 2) rfl))
theorem fx__law_fr (k : Nat) {a : Addr} {fd : FuncData} (F : FunD K "_law_fr" "_law_fr" (defArgs st__law_fr) (defBody st__law_fr) (defScope st__law_fr) [] [] a fd) (hm : mg ("_law_fr" : Str) = some (.ref a)) (wl : Wld (gam (tab k) k) P w K mg base) : FnX P w K mg base (k + 1) ("_law_fr", 2) := by
  refine ⟨a, fd, ["upper", "lower"], ?_, hm, F.kp, F.bindsN fun _ _ _ _ _ _ us hl => match us, hl with | [_, _], _ => rfl⟩
  show FnOk P w K mg base (L2.CX P w) (k + 1) a fd ["upper", "lower"] (spOf _ 2 K (tab (k + 1) "_law_fr"))
  rw [tab__law_fr]
  exact fn_sound F sc__law_fr rfl wl (s__law_fr (tab k) k)
theorem fx__law_add (k : Nat) {a : Addr} {fd : FuncData} (F : FunD K "_law_add" "_law_add" (defArgs st__law_add) (defBody st__law_add) (defScope st__law_add) [] [] a fd) (hm : mg ("_law_add" : Str) = some (.ref a)) (wl : Wld (gam (tab k) k) P w K mg base) : FnX P w K mg base (k + 1) ("_law_add", 2) := by
  refine ⟨a, fd, ["one", "other"], ?_, hm, F.kp, F.bindsN fun _ _ _ _ _ _ us hl => match us, hl with | [_, _], _ => rfl⟩
  show FnOk P w K mg base (L2.CX P w) (k + 1) a fd ["one", "other"] (spOf _ 2 K (tab (k + 1) "_law_add"))
  rw [tab__law_add]
  exact fn_sound F sc__law_add rfl wl (s__law_add (tab k) k)
theorem fx__law_lot (k : Nat) {a : Addr} {fd : FuncData} (F : FunD K "_law_lot" "_law_lot" (defArgs st__law_lot) (defBody st__law_lot) (defScope st__law_lot) [] [] a fd) (hm : mg ("_law_lot" : Str) = some (.ref a)) (wl : Wld (gam (tab k) k) P w K mg base) : FnX P w K mg base (k + 1) ("_law_lot", 3) := by
  refine ⟨a, fd, ["state", "many", "most"], ?_, hm, F.kp, F.bindsN fun _ _ _ _ _ _ us hl => match us, hl with | [_, _, _], _ => rfl⟩
  show FnOk P w K mg base (L2.CX P w) (k + 1) a fd ["state", "many", "most"] (spOf _ 3 K (tab (k + 1) "_law_lot"))
  rw [tab__law_lot]
  exact fn_sound F sc__law_lot rfl wl (s__law_lot (tab k) k)
theorem fx__law_litters (k : Nat) {a : Addr} {fd : FuncData} (F : FunD K "_law_litters" "_law_litters" (defArgs st__law_litters) (defBody st__law_litters) (defScope st__law_litters) [] [] a fd) (hm : mg ("_law_litters" : Str) = some (.ref a)) (wl : Wld (gam (tab k) k) P w K mg base) : FnX P w K mg base (k + 1) ("_law_litters", 3) := by
  refine ⟨a, fd, ["state", "many", "most"], ?_, hm, F.kp, F.bindsN fun _ _ _ _ _ _ us hl => match us, hl with | [_, _, _], _ => rfl⟩
  show FnOk P w K mg base (L2.CX P w) (k + 1) a fd ["state", "many", "most"] (spOf _ 3 K (tab (k + 1) "_law_litters"))
  rw [tab__law_litters]
  exact fn_sound F sc__law_litters rfl wl (s__law_litters (tab k) k)
theorem fx__law_ordered (k : Nat) {a : Addr} {fd : FuncData} (F : FunD K "_law_ordered" "_law_ordered" (defArgs st__law_ordered) (defBody st__law_ordered) (defScope st__law_ordered) [] [] a fd) (hm : mg ("_law_ordered" : Str) = some (.ref a)) (wl : Wld (gam (tab k) k) P w K mg base) : FnX P w K mg base (k + 1) ("_law_ordered", 2) := by
  refine ⟨a, fd, ["lots", "loads"], ?_, hm, F.kp, F.bindsN fun _ _ _ _ _ _ us hl => match us, hl with | [_, _], _ => rfl⟩
  show FnOk P w K mg base (L2.CX P w) (k + 1) a fd ["lots", "loads"] (spOf _ 2 K (tab (k + 1) "_law_ordered"))
  rw [tab__law_ordered]
  exact fn_sound F sc__law_ordered rfl wl (s__law_ordered (tab k) k)
theorem fx__law_book (k : Nat) {a : Addr} {fd : FuncData} (F : FunD K "_law_book" "_law_book" (defArgs st__law_book) (defBody st__law_book) (defScope st__law_book) [] [] a fd) (hm : mg ("_law_book" : Str) = some (.ref a)) (wl : Wld (gam (tab k) k) P w K mg base) : FnX P w K mg base (k + 1) ("_law_book", 2) := by
  refine ⟨a, fd, ["state", "most"], ?_, hm, F.kp, F.bindsN fun _ _ _ _ _ _ us hl => match us, hl with | [_, _], _ => rfl⟩
  show FnOk P w K mg base (L2.CX P w) (k + 1) a fd ["state", "most"] (spOf _ 2 K (tab (k + 1) "_law_book"))
  rw [tab__law_book]
  exact fn_sound F sc__law_book rfl wl (s__law_book (tab k) k)
theorem fx__law_comes (k : Nat) {a : Addr} {fd : FuncData} (F : FunD K "_law_comes" "_law_comes" (defArgs st__law_comes) (defBody st__law_comes) (defScope st__law_comes) [] [] a fd) (hm : mg ("_law_comes" : Str) = some (.ref a)) (wl : Wld (gam (tab k) k) P w K mg base) : FnX P w K mg base (k + 1) ("_law_comes", 2) := by
  refine ⟨a, fd, ["book", "kinds"], ?_, hm, F.kp, F.bindsN fun _ _ _ _ _ _ us hl => match us, hl with | [_, _], _ => rfl⟩
  show FnOk P w K mg base (L2.CX P w) (k + 1) a fd ["book", "kinds"] (spOf _ 2 K (tab (k + 1) "_law_comes"))
  rw [tab__law_comes]
  exact fn_sound F sc__law_comes rfl wl (s__law_comes (tab k) k)
theorem fx__law_lots (k : Nat) {a : Addr} {fd : FuncData} (F : FunD K "_law_lots" "_law_lots" (defArgs st__law_lots) (defBody st__law_lots) (defScope st__law_lots) [] [] a fd) (hm : mg ("_law_lots" : Str) = some (.ref a)) (wl : Wld (gam (tab k) k) P w K mg base) : FnX P w K mg base (k + 1) ("_law_lots", 1) := by
  refine ⟨a, fd, ["book"], ?_, hm, F.kp, F.bindsN fun _ _ _ _ _ _ us hl => match us, hl with | [_], _ => rfl⟩
  show FnOk P w K mg base (L2.CX P w) (k + 1) a fd ["book"] (spOf _ 1 K (tab (k + 1) "_law_lots"))
  rw [tab__law_lots]
  exact fn_sound F sc__law_lots rfl wl (s__law_lots (tab k) k)
theorem fx__law_turns_back (k : Nat) {a : Addr} {fd : FuncData} (F : FunD K "_law_turns_back" "_law_turns_back" (defArgs st__law_turns_back) (defBody st__law_turns_back) (defScope st__law_turns_back) [] [] a fd) (hm : mg ("_law_turns_back" : Str) = some (.ref a)) (wl : Wld (gam (tab k) k) P w K mg base) : FnX P w K mg base (k + 1) ("_law_turns_back", 2) := by
  refine ⟨a, fd, ["book", "lot"], ?_, hm, F.kp, F.bindsN fun _ _ _ _ _ _ us hl => match us, hl with | [_, _], _ => rfl⟩
  show FnOk P w K mg base (L2.CX P w) (k + 1) a fd ["book", "lot"] (spOf _ 2 K (tab (k + 1) "_law_turns_back"))
  rw [tab__law_turns_back]
  exact fn_sound F sc__law_turns_back rfl wl (s__law_turns_back (tab k) k)
theorem fx__law_odd (k : Nat) {a : Addr} {fd : FuncData} (F : FunD K "_law_odd" "_law_odd" (defArgs st__law_odd) (defBody st__law_odd) (defScope st__law_odd) [] [] a fd) (hm : mg ("_law_odd" : Str) = some (.ref a)) (wl : Wld (gam (tab k) k) P w K mg base) : FnX P w K mg base (k + 1) ("_law_odd", 2) := by
  refine ⟨a, fd, ["book", "lot"], ?_, hm, F.kp, F.bindsN fun _ _ _ _ _ _ us hl => match us, hl with | [_, _], _ => rfl⟩
  show FnOk P w K mg base (L2.CX P w) (k + 1) a fd ["book", "lot"] (spOf _ 2 K (tab (k + 1) "_law_odd"))
  rw [tab__law_odd]
  exact fn_sound F sc__law_odd rfl wl (s__law_odd (tab k) k)
theorem fx__law_rows (k : Nat) {a : Addr} {fd : FuncData} (F : FunD K "_law_rows" "_law_rows" (defArgs st__law_rows) (defBody st__law_rows) (defScope st__law_rows) [] [] a fd) (hm : mg ("_law_rows" : Str) = some (.ref a)) (wl : Wld (gam (tab k) k) P w K mg base) : FnX P w K mg base (k + 1) ("_law_rows", 2) := by
  refine ⟨a, fd, ["book", "lot"], ?_, hm, F.kp, F.bindsN fun _ _ _ _ _ _ us hl => match us, hl with | [_, _], _ => rfl⟩
  show FnOk P w K mg base (L2.CX P w) (k + 1) a fd ["book", "lot"] (spOf _ 2 K (tab (k + 1) "_law_rows"))
  rw [tab__law_rows]
  exact fn_sound F sc__law_rows rfl wl (s__law_rows (tab k) k)
theorem fx__law_ends (k : Nat) {a : Addr} {fd : FuncData} (F : FunD K "_law_ends" "_law_ends" (defArgs st__law_ends) (defBody st__law_ends) (defScope st__law_ends) [] [] a fd) (hm : mg ("_law_ends" : Str) = some (.ref a)) (wl : Wld (gam (tab k) k) P w K mg base) : FnX P w K mg base (k + 1) ("_law_ends", 2) := by
  refine ⟨a, fd, ["book", "every"], ?_, hm, F.kp, F.bindsN fun _ _ _ _ _ _ us hl => match us, hl with | [_, _], _ => rfl⟩
  show FnOk P w K mg base (L2.CX P w) (k + 1) a fd ["book", "every"] (spOf _ 2 K (tab (k + 1) "_law_ends"))
  rw [tab__law_ends]
  exact fn_sound F sc__law_ends rfl wl (s__law_ends (tab k) k)
theorem fx__law_things (k : Nat) {a : Addr} {fd : FuncData} (F : FunD K "_law_things" "_law_things" (defArgs st__law_things) (defBody st__law_things) (defScope st__law_things) [] [] a fd) (hm : mg ("_law_things" : Str) = some (.ref a)) (wl : Wld (gam (tab k) k) P w K mg base) : FnX P w K mg base (k + 1) ("_law_things", 3) := by
  refine ⟨a, fd, ["state", "book", "many"], ?_, hm, F.kp, F.bindsN fun _ _ _ _ _ _ us hl => match us, hl with | [_, _, _], _ => rfl⟩
  show FnOk P w K mg base (L2.CX P w) (k + 1) a fd ["state", "book", "many"] (spOf _ 3 K (tab (k + 1) "_law_things"))
  rw [tab__law_things]
  exact fn_sound F sc__law_things rfl wl (s__law_things (tab k) k)
theorem fx_law (k : Nat) {a : Addr} {fd : FuncData} (F : FunD K "law" "law" (defArgs st_law) (defBody st_law) (defScope st_law) [] [] a fd) (hm : mg ("law" : Str) = some (.ref a)) (wl : Wld (gam (tab k) k) P w K mg base) : FnX P w K mg base (k + 1) ("law", 1) := by
  refine ⟨a, fd, ["script"], ?_, hm, F.kp, F.bindsN fun _ _ _ _ _ _ us hl => match us, hl with | [_], _ => rfl⟩
  show FnOk P w K mg base (L2.CX P w) (k + 1) a fd ["script"] (spOf _ 1 K (tab (k + 1) "law"))
  rw [tab_law]
  exact fn_sound F sc_law rfl wl (s_law (tab k) k)
/-- what the head tells of the defs -/
structure Facts (K : PySem.W.Frag) (mg : Str → Option Value) : Prop where
  bl : ∀ x ∈ BL, mg ((x : String) : Str) = none
  gl : ∀ p ∈ GL, ∃ v u, mg ((p.1 : String) : Str) = some u ∧ RelV v u ∧ ∀ G, Dt K G v p.2
  kt : ∀ p ∈ KT, KTup K mg p.1 p.2
  f_divisor : ∃ a fd, FunD K "divisor" "divisor" (defArgs st_divisor) (defBody st_divisor) (defScope st_divisor) [] [] a fd ∧ mg ("divisor" : Str) = some (.ref a)
  f_part : ∃ a fd, FunD K "part" "part" (defArgs st_part) (defBody st_part) (defScope st_part) [] [] a fd ∧ mg ("part" : Str) = some (.ref a)
  f_is_part : ∃ a fd, FunD K "is_part" "is_part" (defArgs st_is_part) (defBody st_is_part) (defScope st_is_part) [] [] a fd ∧ mg ("is_part" : Str) = some (.ref a)
  f_is_chance : ∃ a fd, FunD K "is_chance" "is_chance" (defArgs st_is_chance) (defBody st_is_chance) (defScope st_is_chance) [] [] a fd ∧ mg ("is_chance" : Str) = some (.ref a)
  f_plus : ∃ a fd, FunD K "plus" "plus" (defArgs st_plus) (defBody st_plus) (defScope st_plus) [] [] a fd ∧ mg ("plus" : Str) = some (.ref a)
  f_total : ∃ a fd, FunD K "total" "total" (defArgs st_total) (defBody st_total) (defScope st_total) [] [] a fd ∧ mg ("total" : Str) = some (.ref a)
  f_is_name : ∃ a fd, FunD K "is_name" "is_name" (defArgs st_is_name) (defBody st_is_name) (defScope st_is_name) [] [] a fd ∧ mg ("is_name" : Str) = some (.ref a)
  f_is_whole : ∃ a fd, FunD K "is_whole" "is_whole" (defArgs st_is_whole) (defBody st_is_whole) (defScope st_is_whole) [] [] a fd ∧ mg ("is_whole" : Str) = some (.ref a)
  f_is_lot : ∃ a fd, FunD K "is_lot" "is_lot" (defArgs st_is_lot) (defBody st_is_lot) (defScope st_is_lot) [] [] a fd ∧ mg ("is_lot" : Str) = some (.ref a)
  f_are_litters : ∃ a fd, FunD K "are_litters" "are_litters" (defArgs st_are_litters) (defBody st_are_litters) (defScope st_are_litters) [] [] a fd ∧ mg ("are_litters" : Str) = some (.ref a)
  f_is_book : ∃ a fd, FunD K "is_book" "is_book" (defArgs st_is_book) (defBody st_is_book) (defScope st_is_book) [] [] a fd ∧ mg ("is_book" : Str) = some (.ref a)
  f_one_of : ∃ a fd, FunD K "one_of" "one_of" (defArgs st_one_of) (defBody st_one_of) (defScope st_one_of) [] [] a fd ∧ mg ("one_of" : Str) = some (.ref a)
  f_nothing : ∃ a fd, FunD K "nothing" "nothing" (defArgs st_nothing) (defBody st_nothing) (defScope st_nothing) [] [] a fd ∧ mg ("nothing" : Str) = some (.ref a)
  f_together : ∃ a fd, FunD K "together" "together" (defArgs st_together) (defBody st_together) (defScope st_together) [] [] a fd ∧ mg ("together" : Str) = some (.ref a)
  f_has : ∃ a fd, FunD K "has" "has" (defArgs st_has) (defBody st_has) (defScope st_has) [] [] a fd ∧ mg ("has" : Str) = some (.ref a)
  f_children : ∃ a fd, FunD K "children" "children" (defArgs st_children) (defBody st_children) (defScope st_children) [] [] a fd ∧ mg ("children" : Str) = some (.ref a)
  f_reached : ∃ a fd, FunD K "reached" "reached" (defArgs st_reached) (defBody st_reached) (defScope st_reached) [] [] a fd ∧ mg ("reached" : Str) = some (.ref a)
  f_started : ∃ a fd, FunD K "started" "started" (defArgs st_started) (defBody st_started) (defScope st_started) [] [] a fd ∧ mg ("started" : Str) = some (.ref a)
  f_with_start : ∃ a fd, FunD K "with_start" "with_start" (defArgs st_with_start) (defBody st_with_start) (defScope st_with_start) [] [] a fd ∧ mg ("with_start" : Str) = some (.ref a)
  f_sorted_litters : ∃ a fd, FunD K "sorted_litters" "sorted_litters" (defArgs st_sorted_litters) (defBody st_sorted_litters) (defScope st_sorted_litters) [] [] a fd ∧ mg ("sorted_litters" : Str) = some (.ref a)
  f_can_end : ∃ a fd, FunD K "can_end" "can_end" (defArgs st_can_end) (defBody st_can_end) (defScope st_can_end) [] [] a fd ∧ mg ("can_end" : Str) = some (.ref a)
  f_ends_by : ∃ a fd, FunD K "ends_by" "ends_by" (defArgs st_ends_by) (defBody st_ends_by) (defScope st_ends_by) [] [] a fd ∧ mg ("ends_by" : Str) = some (.ref a)
  f_endless : ∃ a fd, FunD K "endless" "endless" (defArgs st_endless) (defBody st_endless) (defScope st_endless) [] [] a fd ∧ mg ("endless" : Str) = some (.ref a)
  f_accepts_endless : ∃ a fd, FunD K "accepts_endless" "accepts_endless" (defArgs st_accepts_endless) (defBody st_accepts_endless) (defScope st_accepts_endless) [] [] a fd ∧ mg ("accepts_endless" : Str) = some (.ref a)
  f_lots_of : ∃ a fd, FunD K "lots_of" "lots_of" (defArgs st_lots_of) (defBody st_lots_of) (defScope st_lots_of) [] [] a fd ∧ mg ("lots_of" : Str) = some (.ref a)
  f_is_circling : ∃ a fd, FunD K "is_circling" "is_circling" (defArgs st_is_circling) (defBody st_is_circling) (defScope st_is_circling) [] [] a fd ∧ mg ("is_circling" : Str) = some (.ref a)
  f_is_plain : ∃ a fd, FunD K "is_plain" "is_plain" (defArgs st_is_plain) (defBody st_is_plain) (defScope st_is_plain) [] [] a fd ∧ mg ("is_plain" : Str) = some (.ref a)
  f__law_state : ∃ a fd, FunD K "_law_state" "_law_state" (defArgs st__law_state) (defBody st__law_state) (defScope st__law_state) [] [] a fd ∧ mg ("_law_state" : Str) = some (.ref a)
  f__law_take : ∃ a fd, FunD K "_law_take" "_law_take" (defArgs st__law_take) (defBody st__law_take) (defScope st__law_take) [] [] a fd ∧ mg ("_law_take" : Str) = some (.ref a)
  f__law_fr : ∃ a fd, FunD K "_law_fr" "_law_fr" (defArgs st__law_fr) (defBody st__law_fr) (defScope st__law_fr) [] [] a fd ∧ mg ("_law_fr" : Str) = some (.ref a)
  f__law_add : ∃ a fd, FunD K "_law_add" "_law_add" (defArgs st__law_add) (defBody st__law_add) (defScope st__law_add) [] [] a fd ∧ mg ("_law_add" : Str) = some (.ref a)
  f__law_lot : ∃ a fd, FunD K "_law_lot" "_law_lot" (defArgs st__law_lot) (defBody st__law_lot) (defScope st__law_lot) [] [] a fd ∧ mg ("_law_lot" : Str) = some (.ref a)
  f__law_litters : ∃ a fd, FunD K "_law_litters" "_law_litters" (defArgs st__law_litters) (defBody st__law_litters) (defScope st__law_litters) [] [] a fd ∧ mg ("_law_litters" : Str) = some (.ref a)
  f__law_ordered : ∃ a fd, FunD K "_law_ordered" "_law_ordered" (defArgs st__law_ordered) (defBody st__law_ordered) (defScope st__law_ordered) [] [] a fd ∧ mg ("_law_ordered" : Str) = some (.ref a)
  f__law_book : ∃ a fd, FunD K "_law_book" "_law_book" (defArgs st__law_book) (defBody st__law_book) (defScope st__law_book) [] [] a fd ∧ mg ("_law_book" : Str) = some (.ref a)
  f__law_comes : ∃ a fd, FunD K "_law_comes" "_law_comes" (defArgs st__law_comes) (defBody st__law_comes) (defScope st__law_comes) [] [] a fd ∧ mg ("_law_comes" : Str) = some (.ref a)
  f__law_lots : ∃ a fd, FunD K "_law_lots" "_law_lots" (defArgs st__law_lots) (defBody st__law_lots) (defScope st__law_lots) [] [] a fd ∧ mg ("_law_lots" : Str) = some (.ref a)
  f__law_turns_back : ∃ a fd, FunD K "_law_turns_back" "_law_turns_back" (defArgs st__law_turns_back) (defBody st__law_turns_back) (defScope st__law_turns_back) [] [] a fd ∧ mg ("_law_turns_back" : Str) = some (.ref a)
  f__law_odd : ∃ a fd, FunD K "_law_odd" "_law_odd" (defArgs st__law_odd) (defBody st__law_odd) (defScope st__law_odd) [] [] a fd ∧ mg ("_law_odd" : Str) = some (.ref a)
  f__law_rows : ∃ a fd, FunD K "_law_rows" "_law_rows" (defArgs st__law_rows) (defBody st__law_rows) (defScope st__law_rows) [] [] a fd ∧ mg ("_law_rows" : Str) = some (.ref a)
  f__law_ends : ∃ a fd, FunD K "_law_ends" "_law_ends" (defArgs st__law_ends) (defBody st__law_ends) (defScope st__law_ends) [] [] a fd ∧ mg ("_law_ends" : Str) = some (.ref a)
  f__law_things : ∃ a fd, FunD K "_law_things" "_law_things" (defArgs st__law_things) (defBody st__law_things) (defScope st__law_things) [] [] a fd ∧ mg ("_law_things" : Str) = some (.ref a)
  f_law : ∃ a fd, FunD K "law" "law" (defArgs st_law) (defBody st_law) (defScope st_law) [] [] a fd ∧ mg ("law" : Str) = some (.ref a)
theorem wld (X : Facts K mg) : ∀ k, Wld (gam (tab k) k) P w K mg base
  | 0 => ⟨X.bl, X.gl, X.kt, List.forall_mem_cons.mpr ⟨by
    obtain ⟨a, fd, F, hm⟩ := X.f_divisor
    exact ⟨a, fd, ["one", "other"], vac rfl, hm, F.kp, F.bindsN fun _ _ _ _ _ _ us hl => match us, hl with | [_, _], _ => rfl⟩, List.forall_mem_cons.mpr ⟨by
    obtain ⟨a, fd, F, hm⟩ := X.f_part
    exact ⟨a, fd, ["above", "below"], vac rfl, hm, F.kp, F.bindsN fun _ _ _ _ _ _ us hl => match us, hl with | [_, _], _ => rfl⟩, List.forall_mem_cons.mpr ⟨by
    obtain ⟨a, fd, F, hm⟩ := X.f_is_part
    exact ⟨a, fd, ["value"], vac rfl, hm, F.kp, F.bindsN fun _ _ _ _ _ _ us hl => match us, hl with | [_], _ => rfl⟩, List.forall_mem_cons.mpr ⟨by
    obtain ⟨a, fd, F, hm⟩ := X.f_is_chance
    exact ⟨a, fd, ["value"], vac rfl, hm, F.kp, F.bindsN fun _ _ _ _ _ _ us hl => match us, hl with | [_], _ => rfl⟩, List.forall_mem_cons.mpr ⟨by
    obtain ⟨a, fd, F, hm⟩ := X.f_plus
    exact ⟨a, fd, ["one", "other"], vac rfl, hm, F.kp, F.bindsN fun _ _ _ _ _ _ us hl => match us, hl with | [_, _], _ => rfl⟩, List.forall_mem_cons.mpr ⟨by
    obtain ⟨a, fd, F, hm⟩ := X.f_total
    exact ⟨a, fd, ["row"], vac rfl, hm, F.kp, F.bindsN fun _ _ _ _ _ _ us hl => match us, hl with | [_], _ => rfl⟩, List.forall_mem_cons.mpr ⟨by
    obtain ⟨a, fd, F, hm⟩ := X.f_is_name
    exact ⟨a, fd, ["value"], vac rfl, hm, F.kp, F.bindsN fun _ _ _ _ _ _ us hl => match us, hl with | [_], _ => rfl⟩, List.forall_mem_cons.mpr ⟨by
    obtain ⟨a, fd, F, hm⟩ := X.f_is_whole
    exact ⟨a, fd, ["value", "low", "high"], vac rfl, hm, F.kp, F.bindsN fun _ _ _ _ _ _ us hl => match us, hl with | [_, _, _], _ => rfl⟩, List.forall_mem_cons.mpr ⟨by
    obtain ⟨a, fd, F, hm⟩ := X.f_is_lot
    exact ⟨a, fd, ["value", "many", "most"], vac rfl, hm, F.kp, F.bindsN fun _ _ _ _ _ _ us hl => match us, hl with | [_, _, _], _ => rfl⟩, List.forall_mem_cons.mpr ⟨by
    obtain ⟨a, fd, F, hm⟩ := X.f_are_litters
    exact ⟨a, fd, ["value", "many"], vac rfl, hm, F.kp, F.bindsN fun _ _ _ _ _ _ us hl => match us, hl with | [_, _], _ => rfl⟩, List.forall_mem_cons.mpr ⟨by
    obtain ⟨a, fd, F, hm⟩ := X.f_is_book
    exact ⟨a, fd, ["value"], vac rfl, hm, F.kp, F.bindsN fun _ _ _ _ _ _ us hl => match us, hl with | [_], _ => rfl⟩, List.forall_mem_cons.mpr ⟨by
    obtain ⟨a, fd, F, hm⟩ := X.f_one_of
    exact ⟨a, fd, ["book", "kind"], vac rfl, hm, F.kp, F.bindsN fun _ _ _ _ _ _ us hl => match us, hl with | [_, _], _ => rfl⟩, List.forall_mem_cons.mpr ⟨by
    obtain ⟨a, fd, F, hm⟩ := X.f_nothing
    exact ⟨a, fd, ["book"], vac rfl, hm, F.kp, F.bindsN fun _ _ _ _ _ _ us hl => match us, hl with | [_], _ => rfl⟩, List.forall_mem_cons.mpr ⟨by
    obtain ⟨a, fd, F, hm⟩ := X.f_together
    exact ⟨a, fd, ["one", "other"], vac rfl, hm, F.kp, F.bindsN fun _ _ _ _ _ _ us hl => match us, hl with | [_, _], _ => rfl⟩, List.forall_mem_cons.mpr ⟨by
    obtain ⟨a, fd, F, hm⟩ := X.f_has
    exact ⟨a, fd, ["lot", "kinds"], vac rfl, hm, F.kp, F.bindsN fun _ _ _ _ _ _ us hl => match us, hl with | [_, _], _ => rfl⟩, List.forall_mem_cons.mpr ⟨by
    obtain ⟨a, fd, F, hm⟩ := X.f_children
    exact ⟨a, fd, ["book", "kind"], vac rfl, hm, F.kp, F.bindsN fun _ _ _ _ _ _ us hl => match us, hl with | [_, _], _ => rfl⟩, List.forall_mem_cons.mpr ⟨by
    obtain ⟨a, fd, F, hm⟩ := X.f_reached
    exact ⟨a, fd, ["book", "kinds"], vac rfl, hm, F.kp, F.bindsN fun _ _ _ _ _ _ us hl => match us, hl with | [_, _], _ => rfl⟩, List.forall_mem_cons.mpr ⟨by
    obtain ⟨a, fd, F, hm⟩ := X.f_started
    exact ⟨a, fd, ["book"], vac rfl, hm, F.kp, F.bindsN fun _ _ _ _ _ _ us hl => match us, hl with | [_], _ => rfl⟩, List.forall_mem_cons.mpr ⟨by
    obtain ⟨a, fd, F, hm⟩ := X.f_with_start
    exact ⟨a, fd, ["book", "lot"], vac rfl, hm, F.kp, F.bindsN fun _ _ _ _ _ _ us hl => match us, hl with | [_, _], _ => rfl⟩, List.forall_mem_cons.mpr ⟨by
    obtain ⟨a, fd, F, hm⟩ := X.f_sorted_litters
    exact ⟨a, fd, ["rows"], vac rfl, hm, F.kp, F.bindsN fun _ _ _ _ _ _ us hl => match us, hl with | [_], _ => rfl⟩, List.forall_mem_cons.mpr ⟨by
    obtain ⟨a, fd, F, hm⟩ := X.f_can_end
    exact ⟨a, fd, ["book"], vac rfl, hm, F.kp, F.bindsN fun _ _ _ _ _ _ us hl => match us, hl with | [_], _ => rfl⟩, List.forall_mem_cons.mpr ⟨by
    obtain ⟨a, fd, F, hm⟩ := X.f_ends_by
    exact ⟨a, fd, ["book", "kind", "found"], vac rfl, hm, F.kp, F.bindsN fun _ _ _ _ _ _ us hl => match us, hl with | [_, _, _], _ => rfl⟩, List.forall_mem_cons.mpr ⟨by
    obtain ⟨a, fd, F, hm⟩ := X.f_endless
    exact ⟨a, fd, ["book"], vac rfl, hm, F.kp, F.bindsN fun _ _ _ _ _ _ us hl => match us, hl with | [_], _ => rfl⟩, List.forall_mem_cons.mpr ⟨by
    obtain ⟨a, fd, F, hm⟩ := X.f_accepts_endless
    exact ⟨a, fd, ["book", "kind", "value"], vac rfl, hm, F.kp, F.bindsN fun _ _ _ _ _ _ us hl => match us, hl with | [_, _, _], _ => rfl⟩, List.forall_mem_cons.mpr ⟨by
    obtain ⟨a, fd, F, hm⟩ := X.f_lots_of
    exact ⟨a, fd, ["book"], vac rfl, hm, F.kp, F.bindsN fun _ _ _ _ _ _ us hl => match us, hl with | [_], _ => rfl⟩, List.forall_mem_cons.mpr ⟨by
    obtain ⟨a, fd, F, hm⟩ := X.f_is_circling
    exact ⟨a, fd, ["book", "lot"], vac rfl, hm, F.kp, F.bindsN fun _ _ _ _ _ _ us hl => match us, hl with | [_, _], _ => rfl⟩, List.forall_mem_cons.mpr ⟨by
    obtain ⟨a, fd, F, hm⟩ := X.f_is_plain
    exact ⟨a, fd, ["book", "lot"], vac rfl, hm, F.kp, F.bindsN fun _ _ _ _ _ _ us hl => match us, hl with | [_, _], _ => rfl⟩, List.forall_mem_cons.mpr ⟨by
    obtain ⟨a, fd, F, hm⟩ := X.f__law_state
    exact ⟨a, fd, ["script"], vac rfl, hm, F.kp, F.bindsN fun _ _ _ _ _ _ us hl => match us, hl with | [_], _ => rfl⟩, List.forall_mem_cons.mpr ⟨by
    obtain ⟨a, fd, F, hm⟩ := X.f__law_take
    exact ⟨a, fd, ["state", "bound"], vac rfl, hm, F.kp, F.bindsN fun _ _ _ _ _ _ us hl => match us, hl with | [_, _], _ => rfl⟩, List.forall_mem_cons.mpr ⟨by
    obtain ⟨a, fd, F, hm⟩ := X.f__law_fr
    exact ⟨a, fd, ["upper", "lower"], vac rfl, hm, F.kp, F.bindsN fun _ _ _ _ _ _ us hl => match us, hl with | [_, _], _ => rfl⟩, List.forall_mem_cons.mpr ⟨by
    obtain ⟨a, fd, F, hm⟩ := X.f__law_add
    exact ⟨a, fd, ["one", "other"], vac rfl, hm, F.kp, F.bindsN fun _ _ _ _ _ _ us hl => match us, hl with | [_, _], _ => rfl⟩, List.forall_mem_cons.mpr ⟨by
    obtain ⟨a, fd, F, hm⟩ := X.f__law_lot
    exact ⟨a, fd, ["state", "many", "most"], vac rfl, hm, F.kp, F.bindsN fun _ _ _ _ _ _ us hl => match us, hl with | [_, _, _], _ => rfl⟩, List.forall_mem_cons.mpr ⟨by
    obtain ⟨a, fd, F, hm⟩ := X.f__law_litters
    exact ⟨a, fd, ["state", "many", "most"], vac rfl, hm, F.kp, F.bindsN fun _ _ _ _ _ _ us hl => match us, hl with | [_, _, _], _ => rfl⟩, List.forall_mem_cons.mpr ⟨by
    obtain ⟨a, fd, F, hm⟩ := X.f__law_ordered
    exact ⟨a, fd, ["lots", "loads"], vac rfl, hm, F.kp, F.bindsN fun _ _ _ _ _ _ us hl => match us, hl with | [_, _], _ => rfl⟩, List.forall_mem_cons.mpr ⟨by
    obtain ⟨a, fd, F, hm⟩ := X.f__law_book
    exact ⟨a, fd, ["state", "most"], vac rfl, hm, F.kp, F.bindsN fun _ _ _ _ _ _ us hl => match us, hl with | [_, _], _ => rfl⟩, List.forall_mem_cons.mpr ⟨by
    obtain ⟨a, fd, F, hm⟩ := X.f__law_comes
    exact ⟨a, fd, ["book", "kinds"], vac rfl, hm, F.kp, F.bindsN fun _ _ _ _ _ _ us hl => match us, hl with | [_, _], _ => rfl⟩, List.forall_mem_cons.mpr ⟨by
    obtain ⟨a, fd, F, hm⟩ := X.f__law_lots
    exact ⟨a, fd, ["book"], vac rfl, hm, F.kp, F.bindsN fun _ _ _ _ _ _ us hl => match us, hl with | [_], _ => rfl⟩, List.forall_mem_cons.mpr ⟨by
    obtain ⟨a, fd, F, hm⟩ := X.f__law_turns_back
    exact ⟨a, fd, ["book", "lot"], vac rfl, hm, F.kp, F.bindsN fun _ _ _ _ _ _ us hl => match us, hl with | [_, _], _ => rfl⟩, List.forall_mem_cons.mpr ⟨by
    obtain ⟨a, fd, F, hm⟩ := X.f__law_odd
    exact ⟨a, fd, ["book", "lot"], vac rfl, hm, F.kp, F.bindsN fun _ _ _ _ _ _ us hl => match us, hl with | [_, _], _ => rfl⟩, List.forall_mem_cons.mpr ⟨by
    obtain ⟨a, fd, F, hm⟩ := X.f__law_rows
    exact ⟨a, fd, ["book", "lot"], vac rfl, hm, F.kp, F.bindsN fun _ _ _ _ _ _ us hl => match us, hl with | [_, _], _ => rfl⟩, List.forall_mem_cons.mpr ⟨by
    obtain ⟨a, fd, F, hm⟩ := X.f__law_ends
    exact ⟨a, fd, ["book", "every"], vac rfl, hm, F.kp, F.bindsN fun _ _ _ _ _ _ us hl => match us, hl with | [_, _], _ => rfl⟩, List.forall_mem_cons.mpr ⟨by
    obtain ⟨a, fd, F, hm⟩ := X.f__law_things
    exact ⟨a, fd, ["state", "book", "many"], vac rfl, hm, F.kp, F.bindsN fun _ _ _ _ _ _ us hl => match us, hl with | [_, _, _], _ => rfl⟩, List.forall_mem_cons.mpr ⟨by
    obtain ⟨a, fd, F, hm⟩ := X.f_law
    exact ⟨a, fd, ["script"], vac rfl, hm, F.kp, F.bindsN fun _ _ _ _ _ _ us hl => match us, hl with | [_], _ => rfl⟩, List.forall_mem_nil _⟩⟩⟩⟩⟩⟩⟩⟩⟩⟩⟩⟩⟩⟩⟩⟩⟩⟩⟩⟩⟩⟩⟩⟩⟩⟩⟩⟩⟩⟩⟩⟩⟩⟩⟩⟩⟩⟩⟩⟩⟩⟩⟩⟩
  | k + 1 => by
    have wl := wld X k
    exact ⟨X.bl, X.gl, X.kt, List.forall_mem_cons.mpr ⟨by
      obtain ⟨a, fd, F, hm⟩ := X.f_divisor
      exact fx_divisor k F hm wl, List.forall_mem_cons.mpr ⟨by
      obtain ⟨a, fd, F, hm⟩ := X.f_part
      exact fx_part k F hm wl, List.forall_mem_cons.mpr ⟨by
      obtain ⟨a, fd, F, hm⟩ := X.f_is_part
      exact fx_is_part k F hm wl, List.forall_mem_cons.mpr ⟨by
      obtain ⟨a, fd, F, hm⟩ := X.f_is_chance
      exact fx_is_chance k F hm wl, List.forall_mem_cons.mpr ⟨by
      obtain ⟨a, fd, F, hm⟩ := X.f_plus
      exact fx_plus k F hm wl, List.forall_mem_cons.mpr ⟨by
      obtain ⟨a, fd, F, hm⟩ := X.f_total
      exact fx_total k F hm wl, List.forall_mem_cons.mpr ⟨by
      obtain ⟨a, fd, F, hm⟩ := X.f_is_name
      exact fx_is_name k F hm wl, List.forall_mem_cons.mpr ⟨by
      obtain ⟨a, fd, F, hm⟩ := X.f_is_whole
      exact fx_is_whole k F hm wl, List.forall_mem_cons.mpr ⟨by
      obtain ⟨a, fd, F, hm⟩ := X.f_is_lot
      exact fx_is_lot k F hm wl, List.forall_mem_cons.mpr ⟨by
      obtain ⟨a, fd, F, hm⟩ := X.f_are_litters
      exact fx_are_litters k F hm wl, List.forall_mem_cons.mpr ⟨by
      obtain ⟨a, fd, F, hm⟩ := X.f_is_book
      exact fx_is_book k F hm wl, List.forall_mem_cons.mpr ⟨by
      obtain ⟨a, fd, F, hm⟩ := X.f_one_of
      exact fx_one_of k F hm wl, List.forall_mem_cons.mpr ⟨by
      obtain ⟨a, fd, F, hm⟩ := X.f_nothing
      exact fx_nothing k F hm wl, List.forall_mem_cons.mpr ⟨by
      obtain ⟨a, fd, F, hm⟩ := X.f_together
      exact fx_together k F hm wl, List.forall_mem_cons.mpr ⟨by
      obtain ⟨a, fd, F, hm⟩ := X.f_has
      exact fx_has k F hm wl, List.forall_mem_cons.mpr ⟨by
      obtain ⟨a, fd, F, hm⟩ := X.f_children
      exact fx_children k F hm wl, List.forall_mem_cons.mpr ⟨by
      obtain ⟨a, fd, F, hm⟩ := X.f_reached
      exact fx_reached k F hm wl, List.forall_mem_cons.mpr ⟨by
      obtain ⟨a, fd, F, hm⟩ := X.f_started
      exact fx_started k F hm wl, List.forall_mem_cons.mpr ⟨by
      obtain ⟨a, fd, F, hm⟩ := X.f_with_start
      exact fx_with_start k F hm wl, List.forall_mem_cons.mpr ⟨by
      obtain ⟨a, fd, F, hm⟩ := X.f_sorted_litters
      exact fx_sorted_litters k F hm wl, List.forall_mem_cons.mpr ⟨by
      obtain ⟨a, fd, F, hm⟩ := X.f_can_end
      exact fx_can_end k F hm wl, List.forall_mem_cons.mpr ⟨by
      obtain ⟨a, fd, F, hm⟩ := X.f_ends_by
      exact fx_ends_by k F hm wl, List.forall_mem_cons.mpr ⟨by
      obtain ⟨a, fd, F, hm⟩ := X.f_endless
      exact fx_endless k F hm wl, List.forall_mem_cons.mpr ⟨by
      obtain ⟨a, fd, F, hm⟩ := X.f_accepts_endless
      exact fx_accepts_endless k F hm wl, List.forall_mem_cons.mpr ⟨by
      obtain ⟨a, fd, F, hm⟩ := X.f_lots_of
      exact fx_lots_of k F hm wl, List.forall_mem_cons.mpr ⟨by
      obtain ⟨a, fd, F, hm⟩ := X.f_is_circling
      exact fx_is_circling k F hm wl, List.forall_mem_cons.mpr ⟨by
      obtain ⟨a, fd, F, hm⟩ := X.f_is_plain
      exact fx_is_plain k F hm wl, List.forall_mem_cons.mpr ⟨by
      obtain ⟨a, fd, F, hm⟩ := X.f__law_state
      exact fx__law_state k F hm wl, List.forall_mem_cons.mpr ⟨by
      obtain ⟨a, fd, F, hm⟩ := X.f__law_take
      exact fx__law_take k F hm wl, List.forall_mem_cons.mpr ⟨by
      obtain ⟨a, fd, F, hm⟩ := X.f__law_fr
      exact fx__law_fr k F hm wl, List.forall_mem_cons.mpr ⟨by
      obtain ⟨a, fd, F, hm⟩ := X.f__law_add
      exact fx__law_add k F hm wl, List.forall_mem_cons.mpr ⟨by
      obtain ⟨a, fd, F, hm⟩ := X.f__law_lot
      exact fx__law_lot k F hm wl, List.forall_mem_cons.mpr ⟨by
      obtain ⟨a, fd, F, hm⟩ := X.f__law_litters
      exact fx__law_litters k F hm wl, List.forall_mem_cons.mpr ⟨by
      obtain ⟨a, fd, F, hm⟩ := X.f__law_ordered
      exact fx__law_ordered k F hm wl, List.forall_mem_cons.mpr ⟨by
      obtain ⟨a, fd, F, hm⟩ := X.f__law_book
      exact fx__law_book k F hm wl, List.forall_mem_cons.mpr ⟨by
      obtain ⟨a, fd, F, hm⟩ := X.f__law_comes
      exact fx__law_comes k F hm wl, List.forall_mem_cons.mpr ⟨by
      obtain ⟨a, fd, F, hm⟩ := X.f__law_lots
      exact fx__law_lots k F hm wl, List.forall_mem_cons.mpr ⟨by
      obtain ⟨a, fd, F, hm⟩ := X.f__law_turns_back
      exact fx__law_turns_back k F hm wl, List.forall_mem_cons.mpr ⟨by
      obtain ⟨a, fd, F, hm⟩ := X.f__law_odd
      exact fx__law_odd k F hm wl, List.forall_mem_cons.mpr ⟨by
      obtain ⟨a, fd, F, hm⟩ := X.f__law_rows
      exact fx__law_rows k F hm wl, List.forall_mem_cons.mpr ⟨by
      obtain ⟨a, fd, F, hm⟩ := X.f__law_ends
      exact fx__law_ends k F hm wl, List.forall_mem_cons.mpr ⟨by
      obtain ⟨a, fd, F, hm⟩ := X.f__law_things
      exact fx__law_things k F hm wl, List.forall_mem_cons.mpr ⟨by
      obtain ⟨a, fd, F, hm⟩ := X.f_law
      exact fx_law k F hm wl, List.forall_mem_nil _⟩⟩⟩⟩⟩⟩⟩⟩⟩⟩⟩⟩⟩⟩⟩⟩⟩⟩⟩⟩⟩⟩⟩⟩⟩⟩⟩⟩⟩⟩⟩⟩⟩⟩⟩⟩⟩⟩⟩⟩⟩⟩⟩⟩
end
def d_divisor : He.DefD := ⟨("divisor", none), "divisor", "divisor", defArgs st_divisor, defBody st_divisor, defScope st_divisor, [], []⟩
def d_part : He.DefD := ⟨("part", none), "part", "part", defArgs st_part, defBody st_part, defScope st_part, [], []⟩
def d_is_part : He.DefD := ⟨("is_part", none), "is_part", "is_part", defArgs st_is_part, defBody st_is_part, defScope st_is_part, [], []⟩
def d_is_chance : He.DefD := ⟨("is_chance", none), "is_chance", "is_chance", defArgs st_is_chance, defBody st_is_chance, defScope st_is_chance, [], []⟩
def d_plus : He.DefD := ⟨("plus", none), "plus", "plus", defArgs st_plus, defBody st_plus, defScope st_plus, [], []⟩
def d_total : He.DefD := ⟨("total", none), "total", "total", defArgs st_total, defBody st_total, defScope st_total, [], []⟩
def d_is_name : He.DefD := ⟨("is_name", none), "is_name", "is_name", defArgs st_is_name, defBody st_is_name, defScope st_is_name, [], []⟩
def d_is_whole : He.DefD := ⟨("is_whole", none), "is_whole", "is_whole", defArgs st_is_whole, defBody st_is_whole, defScope st_is_whole, [], []⟩
def d_is_lot : He.DefD := ⟨("is_lot", none), "is_lot", "is_lot", defArgs st_is_lot, defBody st_is_lot, defScope st_is_lot, [], []⟩
def d_are_litters : He.DefD := ⟨("are_litters", none), "are_litters", "are_litters", defArgs st_are_litters, defBody st_are_litters, defScope st_are_litters, [], []⟩
def d_is_book : He.DefD := ⟨("is_book", none), "is_book", "is_book", defArgs st_is_book, defBody st_is_book, defScope st_is_book, [], []⟩
def d_one_of : He.DefD := ⟨("one_of", none), "one_of", "one_of", defArgs st_one_of, defBody st_one_of, defScope st_one_of, [], []⟩
def d_nothing : He.DefD := ⟨("nothing", none), "nothing", "nothing", defArgs st_nothing, defBody st_nothing, defScope st_nothing, [], []⟩
def d_together : He.DefD := ⟨("together", none), "together", "together", defArgs st_together, defBody st_together, defScope st_together, [], []⟩
def d_has : He.DefD := ⟨("has", none), "has", "has", defArgs st_has, defBody st_has, defScope st_has, [], []⟩
def d_children : He.DefD := ⟨("children", none), "children", "children", defArgs st_children, defBody st_children, defScope st_children, [], []⟩
def d_reached : He.DefD := ⟨("reached", none), "reached", "reached", defArgs st_reached, defBody st_reached, defScope st_reached, [], []⟩
def d_started : He.DefD := ⟨("started", none), "started", "started", defArgs st_started, defBody st_started, defScope st_started, [], []⟩
def d_with_start : He.DefD := ⟨("with_start", none), "with_start", "with_start", defArgs st_with_start, defBody st_with_start, defScope st_with_start, [], []⟩
def d_sorted_litters : He.DefD := ⟨("sorted_litters", none), "sorted_litters", "sorted_litters", defArgs st_sorted_litters, defBody st_sorted_litters, defScope st_sorted_litters, [], []⟩
def d_can_end : He.DefD := ⟨("can_end", none), "can_end", "can_end", defArgs st_can_end, defBody st_can_end, defScope st_can_end, [], []⟩
def d_ends_by : He.DefD := ⟨("ends_by", none), "ends_by", "ends_by", defArgs st_ends_by, defBody st_ends_by, defScope st_ends_by, [], []⟩
def d_endless : He.DefD := ⟨("endless", none), "endless", "endless", defArgs st_endless, defBody st_endless, defScope st_endless, [], []⟩
def d_accepts_endless : He.DefD := ⟨("accepts_endless", none), "accepts_endless", "accepts_endless", defArgs st_accepts_endless, defBody st_accepts_endless, defScope st_accepts_endless, [], []⟩
def d_lots_of : He.DefD := ⟨("lots_of", none), "lots_of", "lots_of", defArgs st_lots_of, defBody st_lots_of, defScope st_lots_of, [], []⟩
def d_is_circling : He.DefD := ⟨("is_circling", none), "is_circling", "is_circling", defArgs st_is_circling, defBody st_is_circling, defScope st_is_circling, [], []⟩
def d_is_plain : He.DefD := ⟨("is_plain", none), "is_plain", "is_plain", defArgs st_is_plain, defBody st_is_plain, defScope st_is_plain, [], []⟩
def d__law_state : He.DefD := ⟨("_law_state", none), "_law_state", "_law_state", defArgs st__law_state, defBody st__law_state, defScope st__law_state, [], []⟩
def d__law_take : He.DefD := ⟨("_law_take", none), "_law_take", "_law_take", defArgs st__law_take, defBody st__law_take, defScope st__law_take, [], []⟩
def d__law_fr : He.DefD := ⟨("_law_fr", none), "_law_fr", "_law_fr", defArgs st__law_fr, defBody st__law_fr, defScope st__law_fr, [], []⟩
def d__law_add : He.DefD := ⟨("_law_add", none), "_law_add", "_law_add", defArgs st__law_add, defBody st__law_add, defScope st__law_add, [], []⟩
def d__law_lot : He.DefD := ⟨("_law_lot", none), "_law_lot", "_law_lot", defArgs st__law_lot, defBody st__law_lot, defScope st__law_lot, [], []⟩
def d__law_litters : He.DefD := ⟨("_law_litters", none), "_law_litters", "_law_litters", defArgs st__law_litters, defBody st__law_litters, defScope st__law_litters, [], []⟩
def d__law_ordered : He.DefD := ⟨("_law_ordered", none), "_law_ordered", "_law_ordered", defArgs st__law_ordered, defBody st__law_ordered, defScope st__law_ordered, [], []⟩
def d__law_book : He.DefD := ⟨("_law_book", none), "_law_book", "_law_book", defArgs st__law_book, defBody st__law_book, defScope st__law_book, [], []⟩
def d__law_comes : He.DefD := ⟨("_law_comes", none), "_law_comes", "_law_comes", defArgs st__law_comes, defBody st__law_comes, defScope st__law_comes, [], []⟩
def d__law_lots : He.DefD := ⟨("_law_lots", none), "_law_lots", "_law_lots", defArgs st__law_lots, defBody st__law_lots, defScope st__law_lots, [], []⟩
def d__law_turns_back : He.DefD := ⟨("_law_turns_back", none), "_law_turns_back", "_law_turns_back", defArgs st__law_turns_back, defBody st__law_turns_back, defScope st__law_turns_back, [], []⟩
def d__law_odd : He.DefD := ⟨("_law_odd", none), "_law_odd", "_law_odd", defArgs st__law_odd, defBody st__law_odd, defScope st__law_odd, [], []⟩
def d__law_rows : He.DefD := ⟨("_law_rows", none), "_law_rows", "_law_rows", defArgs st__law_rows, defBody st__law_rows, defScope st__law_rows, [], []⟩
def d__law_ends : He.DefD := ⟨("_law_ends", none), "_law_ends", "_law_ends", defArgs st__law_ends, defBody st__law_ends, defScope st__law_ends, [], []⟩
def d__law_things : He.DefD := ⟨("_law_things", none), "_law_things", "_law_things", defArgs st__law_things, defBody st__law_things, defScope st__law_things, [], []⟩
def d_law : He.DefD := ⟨("law", none), "law", "law", defArgs st_law, defBody st_law, defScope st_law, [], []⟩
def fns : List He.DefD := ([d_divisor, d_part, d_is_part, d_is_chance, d_plus, d_total, d_is_name, d_is_whole, d_is_lot, d_are_litters, d_is_book, d_one_of, d_nothing, d_together, d_has, d_children, d_reached, d_started, d_with_start, d_sorted_litters, d_can_end, d_ends_by, d_endless, d_accepts_endless, d_lots_of, d_is_circling, d_is_plain, d__law_state, d__law_take, d__law_fr] : List He.DefD) ++ ([d__law_add, d__law_lot, d__law_litters, d__law_ordered, d__law_book, d__law_comes, d__law_lots, d__law_turns_back, d__law_odd, d__law_rows, d__law_ends, d__law_things, d_law] : List He.DefD)
def fa : List He.Fa := ([.glo "divisor", .glo "part", .glo "is_part", .glo "is_chance", .glo "plus", .glo "total", .glo "is_name", .glo "is_whole", .glo "is_lot", .glo "are_litters", .glo "is_book", .glo "one_of", .glo "nothing", .glo "together", .glo "has", .glo "children", .glo "reached", .glo "started", .glo "with_start", .glo "sorted_litters", .glo "can_end", .glo "ends_by", .glo "endless", .glo "accepts_endless", .glo "lots_of", .glo "is_circling", .glo "is_plain", .glo "_law_state", .glo "_law_take", .glo "_law_fr"] : List He.Fa) ++ ([.glo "_law_add", .glo "_law_lot", .glo "_law_litters", .glo "_law_ordered", .glo "_law_book", .glo "_law_comes", .glo "_law_lots", .glo "_law_turns_back", .glo "_law_odd", .glo "_law_rows", .glo "_law_ends", .glo "_law_things", .glo "law", .glo "WORDS", .free "len", .free "abs", .free "int", .free "sum", .free "all", .free "any", .free "tuple", .free "list", .free "sorted", .free "set", .free "range", .free "isinstance", .free "str", .free "bool", .free "max", .free "min"] : List He.Fa) ++ ([.int "MOST_KINDS" 8, .int "MOST_LITTERS" 8, .int "MOST_YOUNG" 6, .int "MOST_START" 20, .str "LETTERS" "abcdefghijklmnopqrstuvwxyz"] : List He.Fa)
def exK (K : PySem.W.Frag) : Bool := He.tupB K "WORDS" [.str (Str.ofString "kind"), .str (Str.ofString "start"), .str (Str.ofString "nothing")]
abbrev R : PySem.W.OpenRow := PySem.W.OpenLaw.row PySem.Challenge.rw_linesdown_k03_whole_kinds_that_end
abbrev hk : PySem.W.Hook := He.hookX 4 fa fns [] [] exK
def ob (s : PySem.W.SharedT) : He.AlX := He.obsX 4 fa fns [] [] exK (HandSHeadRun.getT s)
theorem ob_eq (s : PySem.W.SharedT) : ob s = hk.obs s.abs := He.obsX_eq (HandSHeadRun.getT_eq s)
def loose : List Str := (["divisor", "part", "is_part", "is_chance", "plus", "total", "is_name", "is_whole", "is_lot", "are_litters", "is_book", "one_of", "nothing", "together", "has", "children", "reached", "started", "with_start", "sorted_litters", "can_end", "ends_by", "endless", "accepts_endless", "lots_of", "is_circling", "is_plain", "_law_state", "_law_take", "_law_fr"] : List Str) ++ (["_law_add", "_law_lot", "_law_litters", "_law_ordered", "_law_book", "_law_comes", "_law_lots", "_law_turns_back", "_law_odd", "_law_rows", "_law_ends", "_law_things", "MOST_KINDS", "MOST_LITTERS", "MOST_YOUNG", "MOST_START", "LETTERS", "WORDS"] : List Str)
theorem run (w : World) : HandSHeadRun.RunEq R (PySem.W.view R.prog [52]) hk ob 20000 loose w := by
  intro os
  kernel_rfl
theorem facts {h : Heap} {mg : Str → Option Value} {K : PySem.W.Frag} (X : K.In h) (G : h.Ns mainGlobals mg) (c : He.SaysD fa fns K) (ce : exK K = true) : Facts K mg := by
  refine ⟨?_, ?_, ?_, ?_, ?_, ?_, ?_, ?_, ?_, ?_, ?_, ?_, ?_, ?_, ?_, ?_, ?_, ?_, ?_, ?_, ?_, ?_, ?_, ?_, ?_, ?_, ?_, ?_, ?_, ?_, ?_, ?_, ?_, ?_, ?_, ?_, ?_, ?_, ?_, ?_, ?_, ?_, ?_, ?_, ?_, ?_⟩
  · exact List.forall_mem_cons.mpr ⟨He.free_ok X G (c.fact 44 (f := .free "len") rfl), List.forall_mem_cons.mpr ⟨He.free_ok X G (c.fact 45 (f := .free "abs") rfl), List.forall_mem_cons.mpr ⟨He.free_ok X G (c.fact 46 (f := .free "int") rfl), List.forall_mem_cons.mpr ⟨He.free_ok X G (c.fact 47 (f := .free "sum") rfl), List.forall_mem_cons.mpr ⟨He.free_ok X G (c.fact 48 (f := .free "all") rfl), List.forall_mem_cons.mpr ⟨He.free_ok X G (c.fact 49 (f := .free "any") rfl), List.forall_mem_cons.mpr ⟨He.free_ok X G (c.fact 50 (f := .free "tuple") rfl), List.forall_mem_cons.mpr ⟨He.free_ok X G (c.fact 51 (f := .free "list") rfl), List.forall_mem_cons.mpr ⟨He.free_ok X G (c.fact 52 (f := .free "sorted") rfl), List.forall_mem_cons.mpr ⟨He.free_ok X G (c.fact 53 (f := .free "set") rfl), List.forall_mem_cons.mpr ⟨He.free_ok X G (c.fact 54 (f := .free "range") rfl), List.forall_mem_cons.mpr ⟨He.free_ok X G (c.fact 55 (f := .free "isinstance") rfl), List.forall_mem_cons.mpr ⟨He.free_ok X G (c.fact 56 (f := .free "str") rfl), List.forall_mem_cons.mpr ⟨He.free_ok X G (c.fact 57 (f := .free "bool") rfl), List.forall_mem_cons.mpr ⟨He.free_ok X G (c.fact 58 (f := .free "max") rfl), List.forall_mem_cons.mpr ⟨He.free_ok X G (c.fact 59 (f := .free "min") rfl), List.forall_mem_nil _⟩⟩⟩⟩⟩⟩⟩⟩⟩⟩⟩⟩⟩⟩⟩⟩
  · exact List.forall_mem_cons.mpr ⟨let ⟨t, e⟩ := He.int_ok X G (c.fact 60 (f := .int "MOST_KINDS" 8) rfl); ⟨.int 8, .int 8 t, e, ⟨t, rfl⟩, fun G => .int _⟩, List.forall_mem_cons.mpr ⟨let ⟨t, e⟩ := He.int_ok X G (c.fact 61 (f := .int "MOST_LITTERS" 8) rfl); ⟨.int 8, .int 8 t, e, ⟨t, rfl⟩, fun G => .int _⟩, List.forall_mem_cons.mpr ⟨let ⟨t, e⟩ := He.int_ok X G (c.fact 62 (f := .int "MOST_YOUNG" 6) rfl); ⟨.int 6, .int 6 t, e, ⟨t, rfl⟩, fun G => .int _⟩, List.forall_mem_cons.mpr ⟨let ⟨t, e⟩ := He.int_ok X G (c.fact 63 (f := .int "MOST_START" 20) rfl); ⟨.int 20, .int 20 t, e, ⟨t, rfl⟩, fun G => .int _⟩, List.forall_mem_cons.mpr ⟨let ⟨t, e⟩ := He.str_ok X G (c.fact 64 (f := .str "LETTERS" "abcdefghijklmnopqrstuvwxyz") rfl); ⟨.str "abcdefghijklmnopqrstuvwxyz", .str "abcdefghijklmnopqrstuvwxyz" t, e, ⟨t, rfl⟩, fun G => .str _ (by decide +kernel)⟩, List.forall_mem_nil _⟩⟩⟩⟩⟩
  · exact List.forall_mem_cons.mpr ⟨⟨He.ga K "WORDS", _, He.glo_ok X G (c.fact 43 (f := .glo "WORDS") rfl), He.tupB_ok ce _, fun G => .cons (.str _ (by decide +kernel)) (.cons (.str _ (by decide +kernel)) (.cons (.str _ (by decide +kernel)) (.nil)))⟩, List.forall_mem_nil _⟩
  ·
    obtain ⟨fd, F⟩ := c.def_ 0 (d := d_divisor) rfl
    exact ⟨_, fd, F, He.glo_ok X G (c.fact 0 (f := .glo "divisor") rfl)⟩
  ·
    obtain ⟨fd, F⟩ := c.def_ 1 (d := d_part) rfl
    exact ⟨_, fd, F, He.glo_ok X G (c.fact 1 (f := .glo "part") rfl)⟩
  ·
    obtain ⟨fd, F⟩ := c.def_ 2 (d := d_is_part) rfl
    exact ⟨_, fd, F, He.glo_ok X G (c.fact 2 (f := .glo "is_part") rfl)⟩
  ·
    obtain ⟨fd, F⟩ := c.def_ 3 (d := d_is_chance) rfl
    exact ⟨_, fd, F, He.glo_ok X G (c.fact 3 (f := .glo "is_chance") rfl)⟩
  ·
    obtain ⟨fd, F⟩ := c.def_ 4 (d := d_plus) rfl
    exact ⟨_, fd, F, He.glo_ok X G (c.fact 4 (f := .glo "plus") rfl)⟩
  ·
    obtain ⟨fd, F⟩ := c.def_ 5 (d := d_total) rfl
    exact ⟨_, fd, F, He.glo_ok X G (c.fact 5 (f := .glo "total") rfl)⟩
  ·
    obtain ⟨fd, F⟩ := c.def_ 6 (d := d_is_name) rfl
    exact ⟨_, fd, F, He.glo_ok X G (c.fact 6 (f := .glo "is_name") rfl)⟩
  ·
    obtain ⟨fd, F⟩ := c.def_ 7 (d := d_is_whole) rfl
    exact ⟨_, fd, F, He.glo_ok X G (c.fact 7 (f := .glo "is_whole") rfl)⟩
  ·
    obtain ⟨fd, F⟩ := c.def_ 8 (d := d_is_lot) rfl
    exact ⟨_, fd, F, He.glo_ok X G (c.fact 8 (f := .glo "is_lot") rfl)⟩
  ·
    obtain ⟨fd, F⟩ := c.def_ 9 (d := d_are_litters) rfl
    exact ⟨_, fd, F, He.glo_ok X G (c.fact 9 (f := .glo "are_litters") rfl)⟩
  ·
    obtain ⟨fd, F⟩ := c.def_ 10 (d := d_is_book) rfl
    exact ⟨_, fd, F, He.glo_ok X G (c.fact 10 (f := .glo "is_book") rfl)⟩
  ·
    obtain ⟨fd, F⟩ := c.def_ 11 (d := d_one_of) rfl
    exact ⟨_, fd, F, He.glo_ok X G (c.fact 11 (f := .glo "one_of") rfl)⟩
  ·
    obtain ⟨fd, F⟩ := c.def_ 12 (d := d_nothing) rfl
    exact ⟨_, fd, F, He.glo_ok X G (c.fact 12 (f := .glo "nothing") rfl)⟩
  ·
    obtain ⟨fd, F⟩ := c.def_ 13 (d := d_together) rfl
    exact ⟨_, fd, F, He.glo_ok X G (c.fact 13 (f := .glo "together") rfl)⟩
  ·
    obtain ⟨fd, F⟩ := c.def_ 14 (d := d_has) rfl
    exact ⟨_, fd, F, He.glo_ok X G (c.fact 14 (f := .glo "has") rfl)⟩
  ·
    obtain ⟨fd, F⟩ := c.def_ 15 (d := d_children) rfl
    exact ⟨_, fd, F, He.glo_ok X G (c.fact 15 (f := .glo "children") rfl)⟩
  ·
    obtain ⟨fd, F⟩ := c.def_ 16 (d := d_reached) rfl
    exact ⟨_, fd, F, He.glo_ok X G (c.fact 16 (f := .glo "reached") rfl)⟩
  ·
    obtain ⟨fd, F⟩ := c.def_ 17 (d := d_started) rfl
    exact ⟨_, fd, F, He.glo_ok X G (c.fact 17 (f := .glo "started") rfl)⟩
  ·
    obtain ⟨fd, F⟩ := c.def_ 18 (d := d_with_start) rfl
    exact ⟨_, fd, F, He.glo_ok X G (c.fact 18 (f := .glo "with_start") rfl)⟩
  ·
    obtain ⟨fd, F⟩ := c.def_ 19 (d := d_sorted_litters) rfl
    exact ⟨_, fd, F, He.glo_ok X G (c.fact 19 (f := .glo "sorted_litters") rfl)⟩
  ·
    obtain ⟨fd, F⟩ := c.def_ 20 (d := d_can_end) rfl
    exact ⟨_, fd, F, He.glo_ok X G (c.fact 20 (f := .glo "can_end") rfl)⟩
  ·
    obtain ⟨fd, F⟩ := c.def_ 21 (d := d_ends_by) rfl
    exact ⟨_, fd, F, He.glo_ok X G (c.fact 21 (f := .glo "ends_by") rfl)⟩
  ·
    obtain ⟨fd, F⟩ := c.def_ 22 (d := d_endless) rfl
    exact ⟨_, fd, F, He.glo_ok X G (c.fact 22 (f := .glo "endless") rfl)⟩
  ·
    obtain ⟨fd, F⟩ := c.def_ 23 (d := d_accepts_endless) rfl
    exact ⟨_, fd, F, He.glo_ok X G (c.fact 23 (f := .glo "accepts_endless") rfl)⟩
  ·
    obtain ⟨fd, F⟩ := c.def_ 24 (d := d_lots_of) rfl
    exact ⟨_, fd, F, He.glo_ok X G (c.fact 24 (f := .glo "lots_of") rfl)⟩
  ·
    obtain ⟨fd, F⟩ := c.def_ 25 (d := d_is_circling) rfl
    exact ⟨_, fd, F, He.glo_ok X G (c.fact 25 (f := .glo "is_circling") rfl)⟩
  ·
    obtain ⟨fd, F⟩ := c.def_ 26 (d := d_is_plain) rfl
    exact ⟨_, fd, F, He.glo_ok X G (c.fact 26 (f := .glo "is_plain") rfl)⟩
  ·
    obtain ⟨fd, F⟩ := c.def_ 27 (d := d__law_state) rfl
    exact ⟨_, fd, F, He.glo_ok X G (c.fact 27 (f := .glo "_law_state") rfl)⟩
  ·
    obtain ⟨fd, F⟩ := c.def_ 28 (d := d__law_take) rfl
    exact ⟨_, fd, F, He.glo_ok X G (c.fact 28 (f := .glo "_law_take") rfl)⟩
  ·
    obtain ⟨fd, F⟩ := c.def_ 29 (d := d__law_fr) rfl
    exact ⟨_, fd, F, He.glo_ok X G (c.fact 29 (f := .glo "_law_fr") rfl)⟩
  ·
    obtain ⟨fd, F⟩ := c.def_ 30 (d := d__law_add) rfl
    exact ⟨_, fd, F, He.glo_ok X G (c.fact 30 (f := .glo "_law_add") rfl)⟩
  ·
    obtain ⟨fd, F⟩ := c.def_ 31 (d := d__law_lot) rfl
    exact ⟨_, fd, F, He.glo_ok X G (c.fact 31 (f := .glo "_law_lot") rfl)⟩
  ·
    obtain ⟨fd, F⟩ := c.def_ 32 (d := d__law_litters) rfl
    exact ⟨_, fd, F, He.glo_ok X G (c.fact 32 (f := .glo "_law_litters") rfl)⟩
  ·
    obtain ⟨fd, F⟩ := c.def_ 33 (d := d__law_ordered) rfl
    exact ⟨_, fd, F, He.glo_ok X G (c.fact 33 (f := .glo "_law_ordered") rfl)⟩
  ·
    obtain ⟨fd, F⟩ := c.def_ 34 (d := d__law_book) rfl
    exact ⟨_, fd, F, He.glo_ok X G (c.fact 34 (f := .glo "_law_book") rfl)⟩
  ·
    obtain ⟨fd, F⟩ := c.def_ 35 (d := d__law_comes) rfl
    exact ⟨_, fd, F, He.glo_ok X G (c.fact 35 (f := .glo "_law_comes") rfl)⟩
  ·
    obtain ⟨fd, F⟩ := c.def_ 36 (d := d__law_lots) rfl
    exact ⟨_, fd, F, He.glo_ok X G (c.fact 36 (f := .glo "_law_lots") rfl)⟩
  ·
    obtain ⟨fd, F⟩ := c.def_ 37 (d := d__law_turns_back) rfl
    exact ⟨_, fd, F, He.glo_ok X G (c.fact 37 (f := .glo "_law_turns_back") rfl)⟩
  ·
    obtain ⟨fd, F⟩ := c.def_ 38 (d := d__law_odd) rfl
    exact ⟨_, fd, F, He.glo_ok X G (c.fact 38 (f := .glo "_law_odd") rfl)⟩
  ·
    obtain ⟨fd, F⟩ := c.def_ 39 (d := d__law_rows) rfl
    exact ⟨_, fd, F, He.glo_ok X G (c.fact 39 (f := .glo "_law_rows") rfl)⟩
  ·
    obtain ⟨fd, F⟩ := c.def_ 40 (d := d__law_ends) rfl
    exact ⟨_, fd, F, He.glo_ok X G (c.fact 40 (f := .glo "_law_ends") rfl)⟩
  ·
    obtain ⟨fd, F⟩ := c.def_ 41 (d := d__law_things) rfl
    exact ⟨_, fd, F, He.glo_ok X G (c.fact 41 (f := .glo "_law_things") rfl)⟩
  ·
    obtain ⟨fd, F⟩ := c.def_ 42 (d := d_law) rfl
    exact ⟨_, fd, F, He.glo_ok X G (c.fact 42 (f := .glo "law") rfl)⟩
def lawAt : Nat := 52
end PP.K03

end
section
set_option Elab.async false
set_option linter.all false
set_option maxRecDepth 100000
set_option maxHeartbeats 1000000
/-! K03d: the defs' functions worked out. -/
namespace PP.K03
open PySem PySem.Spec PyProof.Rows L2 PP

abbrev I (i : Int) : Val := .dat (.int i)
theorem div_loop : ∀ (fuel x y : Nat), y < fuel → whL (cTst (cBin oNee (cVar 1) (cC (.int 0)))) (sPar 2 0 1 (cVar 1) (cBin oMod (cVar 0) (cVar 1))) fuel [some (I x), some (I y)] = some (.ok .nx [some (I (Nat.gcd x y)), some (I 0)])
  | 0, x, y, h => absurd h (Nat.not_lt_zero _)
  | fuel + 1, x, y, h => by
    unfold whL
    cases y with
    | zero =>
      simp [cTst, cBin, cVar, cC, fin2, asB]
    | succ y =>
      have hm : x % (y + 1) < fuel := by
        have h2 : x % (y + 1) < y + 1 := Nat.mod_lt x (Nat.succ_pos y)
        omega
      have ih := div_loop fuel (y + 1) (x % (y + 1)) hm
      have e1 : Nat.gcd (y + 1) (x % (y + 1)) = Nat.gcd x (y + 1) := by rw [Nat.gcd_comm x, Nat.gcd_rec (y + 1) x, Nat.gcd_comm]
      have e2 : ((x : Int) % ((y + 1 : Nat) : Int)) = ((x % (y + 1) : Nat) : Int) := rfl
      rw [e1] at ih
      have e3 : oMod (I x) (I ((y + 1 : Nat) : Int)) = some (.int ((x % (y + 1) : Nat) : Int)) := by rw [← e2]; exact e_mod (by omega)
      have e4 : (((y + 1 : Nat) : Int) != 0) = true := by simp [bne]; omega
      simp only [cTst, cBin, cVar, cC, fin2, asB, sPar, par2, stV, setV, setOk, bnd_ok, List.getElem?_cons_zero, List.getElem?_cons_succ, e_neI, e4, e3, if_true, if_false, Bool.false_eq_true, decide_true, List.set_cons_zero, List.set_cons_succ, Bool.not_true, Bool.not_false, Bool.and_self, Bool.or_true, Nat.lt_add_one, reduceIte, isMut_dat, noBor_dat, lend_dat, res_dat, Nat.lt_irrefl, decide_false, decide_eq_true_eq, Nat.not_lt_zero, Nat.zero_lt_succ, Nat.one_lt_two, show (1 : Nat) < 2 from by decide, show (0 : Nat) < 2 from by decide]
      exact ih
theorem t_divisor (k : Nat) (a b : Int) (h : b.natAbs < 999999) : tab (k + 1) "divisor" [I a, I b] = some (.ok (I (Int.gcd a b)) [I a, I b]) := by
  rw [tab_divisor]
  have e1 : ∀ i : Int, (if i < 0 then -i else i) = (i.natAbs : Int) := fun i => by split <;> omega
  have hl := div_loop 1000000 a.natAbs b.natAbs (by omega)
  simp [runFn, b_divisor, bSeq, sPar, cB, aCons, aNil, cVar, finB, bAbs, e1, N_divisor, par2, setV, setOk, stV, sWhile, hl, sRet, finFn]
  rfl
/-- a part in its least numbers -/
def red (a b : Int) : Int × Int := (a / Int.gcd a b, b / Int.gcd a b)
abbrev pd (p : Int × Int) : PyData := .tuple [.int p.1, .int p.2]
theorem gcd_small {a b : Int} (h : 0 < b) : 0 < (Int.gcd a b : Int) ∧ (Int.gcd a b : Int) ≤ b := by
  have h1 : 0 < Int.gcd a b := Int.gcd_pos_of_ne_zero_right a (by omega)
  have h2 := Int.le_of_dvd h (Int.gcd_dvd_right a b)
  exact ⟨by omega, h2⟩
theorem t_part (k : Nat) (a b : Int) (h : 0 < b) (h2 : b < 999999) : tab (k + 2) "part" [I a, I b] = some (.ok (.dat (pd (red a b))) [I a, I b]) := by
  rw [tab_part]
  obtain ⟨g1, g2⟩ := gcd_small (a := a) h
  have hd := t_divisor k a b (by omega)
  have hc : callV (tab (k + 1)) "divisor" [I a, I b] [some (I a), some (I b), none] = some (.ok (I (Int.gcd a b)) [some (I a), some (I b), none]) := callV_ok rfl rfl hd rfl rfl
  have f1 : oFdv (I a) (I (Int.gcd a b)) = some (.int (a / Int.gcd a b)) := e_fdv g1 (by omega)
  have f2 : oFdv (I b) (I (Int.gcd a b)) = some (.int (b / Int.gcd a b)) := e_fdv g1 (by omega)
  have nb : ¬ b < 0 := by omega
  simp [runFn, b_part, bSeq, bNil, sIf, cTst, asB, cBin, cVar, cC, aCons, aNil, fin2, N_part, nb, sSet, cCall, hc, stV, setV, setOk, sRet, cTup, f1, f2, finTup, okLen, finFn, red]
theorem t_plus (k : Nat) (a b c d : Int) (hb : 0 < b) (hb2 : b < 900) (hd : 0 < d) (hd2 : d < 900) (ha : a.natAbs < 2 ^ 100) (hc : c.natAbs < 2 ^ 100) :
    tab (k + 3) "plus" [.dat (pd (a, b)), .dat (pd (c, d))] = some (.ok (.dat (pd (red (a * d + c * b) (b * d)))) [.dat (pd (a, b)), .dat (pd (c, d))]) := by
  rw [tab_plus]
  have m1 : oMul (I a) (I d) = some (.int (a * d)) := e_mulS (by omega) (by omega)
  have m2 : oMul (I c) (I b) = some (.int (c * b)) := e_mulS (by omega) (by omega)
  have m3 : oMul (I b) (I d) = some (.int (b * d)) := e_mulS (by omega) (by omega)
  have p1 : 0 < b * d := Int.mul_pos hb hd
  have p2 : b * d ≤ 900 * 900 := Int.mul_le_mul (by omega) (by omega) (by omega) (by omega)
  have hp := t_part k (a * d + c * b) (b * d) p1 (by omega)
  have hc : callV (tab (k + 2)) "part" [I (a * d + c * b), I (b * d)] [some (.dat (pd (a, b))), some (.dat (pd (c, d)))] = some (.ok (.dat (pd (red (a * d + c * b) (b * d)))) [some (.dat (pd (a, b))), some (.dat (pd (c, d)))]) := callV_ok rfl rfl hp rfl rfl
  simp [runFn, b_plus, cBin, cVar, cC, aCons, aNil, fin2, N_plus, cCall, m1, m2, m3, hc, sRet, finFn]
/-! ### parts added -/
theorem nat_red {a b c d : Nat} (hb : 0 < b) (hd : 0 < d) (h : a * d = c * b) : a / Nat.gcd a b = c / Nat.gcd c d ∧ b / Nat.gcd a b = d / Nat.gcd c d := by
  have hg : 0 < Nat.gcd a b := Nat.gcd_pos_of_pos_right a hb
  have hh : 0 < Nat.gcd c d := Nat.gcd_pos_of_pos_right c hd
  have e : Nat.gcd a b * d = Nat.gcd c d * b := by
    rw [← Nat.gcd_mul_right, ← Nat.gcd_mul_right, h, Nat.mul_comm d b]
  obtain ⟨a', ha⟩ := Nat.gcd_dvd_left a b
  obtain ⟨b', hb'⟩ := Nat.gcd_dvd_right a b
  obtain ⟨c', hc⟩ := Nat.gcd_dvd_left c d
  obtain ⟨d', hd'⟩ := Nat.gcd_dvd_right c d
  generalize Nat.gcd a b = g at *
  generalize Nat.gcd c d = f at *
  subst ha hb' hc hd'
  rw [Nat.mul_div_cancel_left _ hg, Nat.mul_div_cancel_left _ hh, Nat.mul_div_cancel_left _ hg, Nat.mul_div_cancel_left _ hh]
  have hgf : 0 < g * f := Nat.mul_pos hg hh
  have e2 : d' = b' := by
    refine Nat.eq_of_mul_eq_mul_left hgf ?_
    calc g * f * d' = g * (f * d') := by rw [Nat.mul_assoc]
      _ = f * (g * b') := e
      _ = g * f * b' := by rw [← Nat.mul_assoc, Nat.mul_comm f g]
  refine ⟨?_, e2.symm⟩
  subst e2
  have hd2 : 0 < d' := Nat.pos_of_mul_pos_left hd |> fun _ => by
    rcases Nat.eq_zero_or_pos d' with z | z
    · rw [z] at hd; simp at hd
    · exact z
  refine Nat.eq_of_mul_eq_mul_right (Nat.mul_pos hgf hd2) ?_
  calc a' * (g * f * d') = g * a' * (f * d') := by simp only [Nat.mul_comm, Nat.mul_left_comm]
    _ = f * c' * (g * d') := h
    _ = c' * (g * f * d') := by simp only [Nat.mul_comm, Nat.mul_left_comm]
theorem red_nat (a b : Nat) : red (a : Int) (b : Int) = (((a / Nat.gcd a b : Nat) : Int), ((b / Nat.gcd a b : Nat) : Int)) := by
  unfold red
  simp [Int.gcd_natCast_natCast]
theorem red_eq {a b c d : Nat} (hb : 0 < b) (hd : 0 < d) (h : a * d = c * b) : red a b = red c d := by
  rw [red_nat, red_nat, (nat_red hb hd h).1, (nat_red hb hd h).2]
/-- parts of S added -/
theorem red_add (x y S : Nat) (hS : 0 < S) : red ((red x S).1 * (red y S).2 + (red y S).1 * (red x S).2) ((red x S).2 * (red y S).2) = red ((x + y : Nat)) S := by
  rw [red_nat, red_nat]
  have hg : 0 < Nat.gcd x S := Nat.gcd_pos_of_pos_right x hS
  have hh : 0 < Nat.gcd y S := Nat.gcd_pos_of_pos_right y hS
  obtain ⟨x', hx⟩ := Nat.gcd_dvd_left x S
  obtain ⟨s1, h1⟩ := Nat.gcd_dvd_right x S
  obtain ⟨y', hy⟩ := Nat.gcd_dvd_left y S
  obtain ⟨s2, h2⟩ := Nat.gcd_dvd_right y S
  have e1 : x / Nat.gcd x S = x' := by rw [Nat.div_eq_of_eq_mul_right hg hx]
  have e2 : S / Nat.gcd x S = s1 := by rw [Nat.div_eq_of_eq_mul_right hg h1]
  have e3 : y / Nat.gcd y S = y' := by rw [Nat.div_eq_of_eq_mul_right hh hy]
  have e4 : S / Nat.gcd y S = s2 := by rw [Nat.div_eq_of_eq_mul_right hh h2]
  rw [e1, e2, e3, e4]
  have p1 : 0 < s1 := by
    rcases Nat.eq_zero_or_pos s1 with z | z
    · rw [z] at h1; omega
    · exact z
  have p2 : 0 < s2 := by
    rcases Nat.eq_zero_or_pos s2 with z | z
    · rw [z] at h2; omega
    · exact z
  have key : (x' * s2 + y' * s1) * S = (x + y) * (s1 * s2) := by
    have a1 : x' * s2 * S = x * (s1 * s2) := by
      calc x' * s2 * S = x' * s2 * (Nat.gcd x S * s1) := by rw [← h1]
        _ = Nat.gcd x S * x' * (s1 * s2) := by ac_rfl
        _ = x * (s1 * s2) := by rw [← hx]
    have a2 : y' * s1 * S = y * (s1 * s2) := by
      calc y' * s1 * S = y' * s1 * (Nat.gcd y S * s2) := by rw [← h2]
        _ = Nat.gcd y S * y' * (s1 * s2) := by ac_rfl
        _ = y * (s1 * s2) := by rw [← hy]
    rw [Nat.add_mul, a1, a2, ← Nat.add_mul]
  have := red_eq (a := x' * s2 + y' * s1) (b := s1 * s2) (c := x + y) (d := S) (Nat.mul_pos p1 p2) hS key
  simpa using this
theorem red_bd (x S : Nat) (hS : 0 < S) (h : x ≤ S) : 0 ≤ (red x S).1 ∧ (red x S).1 ≤ (red x S).2 ∧ 0 < (red x S).2 ∧ (red x S).2 ≤ S := by
  rw [red_nat]
  have hg : 0 < Nat.gcd x S := Nat.gcd_pos_of_pos_right x hS
  have h1 := Nat.div_le_self S (Nat.gcd x S)
  have h2 : x / Nat.gcd x S ≤ S / Nat.gcd x S := Nat.div_le_div_right h
  have h3 : 0 < S / Nat.gcd x S := Nat.div_pos (Nat.le_of_dvd hS (Nat.gcd_dvd_right x S)) hg
  generalize x / Nat.gcd x S = u at *
  generalize S / Nat.gcd x S = v at *
  refine ⟨?_, ?_, ?_, ?_⟩ <;> simp only <;> omega
/-- a row of parts of S -/
def partsOf (S : Nat) (xs : List Nat) : PyData := .list (xs.map fun x : Nat => pd (red (x : Int) S))
theorem tot_loop (k S : Nat) (hS : 0 < S) (hS2 : S < 900) : ∀ (xs : List Nat) (acc : Nat) (d : PyData) (o : Option Val), acc + xs.sum ≤ S →
    ∃ o', forL (tName 1 2) (sSet 1 1 (cCall (tab (k + 3)) "plus" (aCons (cVar 1) (aCons (cVar 2) aNil)))) (xs.map fun x : Nat => pd (red (x : Int) S)) [some (.dat d), some (.dat (pd (red acc S))), o] = some (.ok .nx [some (.dat d), some (.dat (pd (red (acc + xs.sum : Nat) S))), o'])
  | [], acc, d, o, h => ⟨o, by simp [forL]⟩
  | x :: xs, acc, d, o, h => by
    rw [List.sum_cons] at h
    obtain ⟨b1, b2, b3, b4⟩ := red_bd acc S hS (by omega)
    obtain ⟨c1, c2, c3, c4⟩ := red_bd x S hS (by omega)
    have hp := t_plus k (red acc S).1 (red acc S).2 (red x S).1 (red x S).2 b3 (by omega) c3 (by omega) (by omega) (by omega)
    rw [red_add acc x S hS] at hp
    have hc : callV (tab (k + 3)) "plus" [.dat (pd (red acc S)), .dat (pd (red x S))] [some (.dat d), some (.dat (pd (red acc S))), some (.dat (pd (red x S)))] = some (.ok (.dat (pd (red (acc + x : Nat) S))) [some (.dat d), some (.dat (pd (red acc S))), some (.dat (pd (red x S)))]) := callV_ok rfl rfl hp rfl rfl
    obtain ⟨o', ih⟩ := tot_loop k S hS hS2 xs (acc + x) d (some (.dat (pd (red x S)))) (by omega)
    refine ⟨o', ?_⟩
    rw [List.map_cons]
    unfold forL
    have ht : tName 1 2 (pd (red x S)) [some (.dat d), some (.dat (pd (red acc S))), o] = some [some (.dat d), some (.dat (pd (red acc S))), some (.dat (pd (red x S)))] := by
      cases o <;> simp [tName, setV, setOk]
    rw [ht]
    simp only
    have hs : sSet 1 1 (cCall (tab (k + 3)) "plus" (aCons (cVar 1) (aCons (cVar 2) aNil))) [some (.dat d), some (.dat (pd (red acc S))), some (.dat (pd (red x S)))] = some (.ok .nx [some (.dat d), some (.dat (pd (red (acc + x : Nat) S))), some (.dat (pd (red x S)))]) := by
      simp [sSet, cCall, aCons, aNil, cVar, hc, stV, setV, setOk]
    rw [hs, bnd_ok]
    simp only
    rw [ih, List.sum_cons, Nat.add_assoc]
theorem t_total (k S : Nat) (xs : List Nat) (hS : 0 < S) (hS2 : S < 900) (h : xs.sum ≤ S) : tab (k + 4) "total" [.dat (partsOf S xs)] = some (.ok (.dat (pd (red (xs.sum : Nat) S))) [.dat (partsOf S xs)]) := by
  rw [tab_total]
  have e0 : red ((0 : Nat) : Int) S = (0, 1) := by
    rw [red_nat]
    simp [Nat.div_self hS]
  obtain ⟨o', hl⟩ := tot_loop k S hS hS2 xs 0 (partsOf S xs) none (by omega)
  rw [e0, Nat.zero_add] at hl
  simp only [partsOf] at hl ⊢
  simp [runFn, b_total, bSeq, sSet, cTup, cC, aCons, aNil, finTup, okLen, stV, setV, setOk, N_total, sFor, iSeq, cVar, items, hl, sRet, finFn]
end PP.K03

end
section
set_option Elab.async false
set_option linter.all false
set_option maxRecDepth 100000
set_option maxHeartbeats 1000000
/-! K03f: chances, lots, names. -/
namespace PP.K03
open PySem PySem.Spec PyProof.Rows L2 PP

abbrev D (d : PyData) : Val := .dat d
theorem t_whole (k : Nat) (v lo hi : Int) : tab (k + 1) "is_whole" [I v, I lo, I hi] = some (.ok (D (.bool (decide (lo ≤ v) && decide (v ≤ hi)))) [I v, I lo, I hi]) := by
  rw [tab_is_whole]
  have hc : cChain oLe oLe (cVar 1) (cVar 0) (cVar 2) [some (I v), some (I lo), some (I hi)] = some (.ok (.dat (.bool (decide (lo ≤ v) && decide (v ≤ hi)))) [some (I v), some (I lo), some (I hi)]) :=
    chain_le (by simp [cVar]) (by simp [cVar]) (by simp [cVar])
  simp [runFn, b_is_whole, N_is_whole, sRet, cAnd, cIs, cNot, cVar, finIs, asB, hc, finFn]
theorem t_wholeB (k : Nat) (v : Bool) (lo hi : Int) : tab (k + 1) "is_whole" [D (.bool v), I lo, I hi] = some (.ok (D (.bool false)) [D (.bool v), I lo, I hi]) := by
  rw [tab_is_whole]
  simp [runFn, b_is_whole, N_is_whole, sRet, cAnd, cIs, cNot, cVar, finIs, asB, finFn]
theorem t_wholeS (k : Nat) (v : Str) (lo hi : Int) : tab (k + 1) "is_whole" [D (.str v), I lo, I hi] = some (.ok (D (.bool false)) [D (.str v), I lo, I hi]) := by
  rw [tab_is_whole]
  simp [runFn, b_is_whole, N_is_whole, sRet, cAnd, cIs, cNot, cVar, finIs, asB, finFn]
/-- a lot within its bounds -/
theorem t_lot (k : Nat) (r : List Int) (many most : Int) (hl : r.length ≤ 1000) (h1 : (r.length : Int) = many) (h2 : ∀ x ∈ r, 0 ≤ x ∧ x ≤ most) (h3 : r.sum ≤ most) : tab (k + 2) "is_lot" [D (rowD r), I many, I most] = some (.ok (D (.bool true)) [D (rowD r), I many, I most]) := by
  rw [tab_is_lot]
  subst h1
  have hlc : cLc [3] (iSeq (cVar 0)) (tName 0 3) cYes (cCall (tab (k + 1)) "is_whole" (aCons (cVar 3) (aCons (cC (.int 0)) (aCons (cVar 2) aNil)))) [some (D (rowD r)), some (I (r.length : Int)), some (I most), none] = some (.ok (.dat (.list (r.filterMap fun _ => some (.bool true)))) [some (D (rowD r)), some (I (r.length : Int)), some (I most), none]) := by
    refine lc_map r .int _ (by simp [iSeq, cVar, items, rowD]) (by simp) (by omega) fun x hx => step_yes rfl ?_
    have hw := t_whole k x 0 most
    obtain ⟨a, b⟩ := h2 x hx
    simp only [a, b, decide_true, Bool.and_self] at hw
    have hc : callV (tab (k + 1)) "is_whole" [I x, I 0, I most] [some (D (rowD r)), some (I (r.length : Int)), some (I most), some (I x)] = some (.ok (D (.bool true)) [some (D (rowD r)), some (I (r.length : Int)), some (I most), some (I x)]) := callV_ok rfl rfl hw rfl rfl
    simp [wipeE, cCall, aCons, aNil, cVar, cC, hc]
  have e1 : (r.filterMap fun _ => some (PyData.bool true)) = (r.map fun _ => true).map .bool := by
    rw [filterMap_some, List.map_map]
    rfl
  rw [e1] at hlc
  have e2 : (r.map fun _ => true).all id = true := by simp
  have hv0 : cVar 0 [some (D (rowD r)), some (I (r.length : Int)), some (I most), none] = some (.ok (D (rowD r)) [some (D (rowD r)), some (I (r.length : Int)), some (I most), none]) := var rfl
  have ht : cOrB (cNotB (cTst (cIs "tuple" (cVar 0)))) (cTst (cBin oNee (cB bLen (aCons (cVar 0) aNil)) (cVar 1))) [some (D (rowD r)), some (I (r.length : Int)), some (I most), none] = some (.ok false [some (D (rowD r)), some (I (r.length : Int)), some (I most), none]) := by
    have := orB1 (notB1 (tst (isT hv0 rfl k_tt))) (fun _ => tst (bin (b1_lenT hv0) (var (i := 1) rfl) (e_neI _ _)))
    simpa using this
  have hfin := and1 (b1_all hlc) (fun _ => bin (b1_sumT hv0) (var (i := 2) rfl) (e_leI _ _))
  have hb : b_is_lot (tab (k + 1)) [some (D (rowD r)), some (I (r.length : Int)), some (I most), none] = some (.ok (.rt (D (.bool true))) [some (D (rowD r)), some (I (r.length : Int)), some (I most), none]) := by
    unfold b_is_lot
    rw [seq_nx ((if_no ht).trans rfl), ret_d hfin]
    simp [h3, e2]
  exact run_d rfl hb (by simp) rfl
theorem t_part2 (k : Nat) (a b : Int) (hb : 0 < b) (hb2 : b < 900) (hg : Int.gcd a b = 1) : tab (k + 2) "is_part" [D (pd (a, b))] = some (.ok (D (.bool true)) [D (pd (a, b))]) := by
  rw [tab_is_part]
  have hv0 : cVar 0 [some (D (pd (a, b))), none] = some (.ok (D (pd (a, b))) [some (D (pd (a, b))), none]) := var rfl
  have hlc : cLc [1] (iSeq (cVar 0)) (tName 0 1) cYes (cAnd (cIs "int" (cVar 1)) (cNot (cIs "bool" (cVar 1)))) [some (D (pd (a, b))), none] = some (.ok (.dat (.list ([a, b].filterMap fun _ => some (.bool true)))) [some (D (pd (a, b))), none]) := by
    refine lc_map [a, b] .int _ (by simp [iSeq, hv0, items]) (by simp) (by simp) fun x hx => step_yes rfl ?_
    have hx1 : cVar 1 ((wipeE [some (D (pd (a, b))), none] [1]).set 1 (some (D (.int x)))) = some (.ok (D (.int x)) ((wipeE [some (D (pd (a, b))), none] [1]).set 1 (some (D (.int x))))) := var (by simp [wipeE])
    have := and1 (isT hx1 rfl k_ii) (fun _ => not1 (isT hx1 rfl k_ib))
    simpa using this
  have hall := b1_all (bs := [true, true]) hlc
  have ht1 : cOrB (cNotB (cTst (cIs "tuple" (cVar 0)))) (cTst (cBin oNee (cB bLen (aCons (cVar 0) aNil)) (cC (.int 2)))) [some (D (pd (a, b))), none] = some (.ok false [some (D (pd (a, b))), none]) := by
    have := orB1 (notB1 (tst (isT hv0 rfl k_tt))) (fun _ => tst (bin (b1_lenT hv0) (const (.int 2) _) (e_neI _ _)))
    simpa using this
  have ht2 := notB1 (tst hall)
  have hd := t_divisor k a b (by omega)
  rw [hg] at hd
  have i0 : cBin oIx (cVar 0) (cC (.int 0)) [some (D (pd (a, b))), none] = some (.ok (I a) [some (D (pd (a, b))), none]) := ixT hv0 (const _ _) (by simp)
  have i1 : cBin oIx (cVar 0) (cC (.int 1)) [some (D (pd (a, b))), none] = some (.ok (I b) [some (D (pd (a, b))), none]) := ixT hv0 (const _ _) (by simp)
  have hfin := and1 (bin i1 (const (.int 0) _) (e_gtI b 0)) (fun _ => bin (call2 i0 i1 hd) (const (.int 1) _) (e_eqI _ _))
  have hbody : b_is_part (tab (k + 1)) [some (D (pd (a, b))), none] = some (.ok (.rt (D (.bool true))) [some (D (pd (a, b))), none]) := by
    unfold b_is_part
    rw [seq_nx ((if_no ht1).trans rfl), seq_nx ((if_no ht2).trans rfl), ret_d hfin]
    simp [hb]
  exact run_d rfl hbody (by simp) rfl
theorem t_chance (k : Nat) (a b : Int) (ha : 0 ≤ a) (hab : a ≤ b) (hb : 0 < b) (hb2 : b < 900) (hg : Int.gcd a b = 1) : tab (k + 3) "is_chance" [D (pd (a, b))] = some (.ok (D (.bool true)) [D (pd (a, b))]) := by
  rw [tab_is_chance]
  have hv0 : cVar 0 [some (D (pd (a, b)))] = some (.ok (D (pd (a, b))) [some (D (pd (a, b)))]) := var rfl
  have i0 : cBin oIx (cVar 0) (cC (.int 0)) [some (D (pd (a, b)))] = some (.ok (I a) [some (D (pd (a, b)))]) := ixT hv0 (const _ _) (by simp)
  have i1 : cBin oIx (cVar 0) (cC (.int 1)) [some (D (pd (a, b)))] = some (.ok (I b) [some (D (pd (a, b)))]) := ixT hv0 (const _ _) (by simp)
  have hfin := and1 (call1 hv0 (t_part2 k a b hb hb2 hg)) (fun _ => chain_le (const (.int 0) _) i0 i1)
  have hbody : b_is_chance (tab (k + 2)) [some (D (pd (a, b)))] = some (.ok (.rt (D (.bool true))) [some (D (pd (a, b)))]) := by
    unfold b_is_chance
    rw [ret_d hfin]
    simp [ha, hab]
  exact run_d rfl hbody (by simp) rfl
def nm (s : String) : PyData := .str (Str.ofString s)
theorem t_name (k : Nat) (s : String) (h : s = "a" ∨ s = "b" ∨ s = "c") : tab (k + 1) "is_name" [D (nm s)] = some (.ok (D (.bool true)) [D (nm s)]) := by
  rw [tab_is_name]
  rcases h with rfl | rfl | rfl <;> kernel_rfl
end PP.K03

end
section
set_option Elab.async false
set_option linter.all false
set_option maxRecDepth 100000
set_option maxHeartbeats 1000000
/-! K03g: litters, books. -/
namespace PP.K03
open PySem PySem.Spec PyProof.Rows L2 PP
open PySem.W (dataLt alike alikeAll)

/-- a litter: its lots, the loads of S -/
abbrev Lit := List (List Int × Nat)
def rwD (S : Nat) (r : List Int × Nat) : PyData := .tuple [rowD r.1, pd (red (r.2 : Int) S)]
def sumL (l : Lit) : Nat := (l.map (·.2)).sum
def litD (l : Lit) : PyData := .tuple (l.map (rwD (sumL l)))
structure LitOk (many : Nat) (l : Lit) : Prop where
  ne : l ≠ []
  len : l.length ≤ 8
  lot : ∀ r ∈ l, r.1.length = many ∧ (∀ x ∈ r.1, 0 ≤ x ∧ x ≤ 6) ∧ r.1.sum ≤ 6
  load : ∀ r ∈ l, 0 < r.2
  few : sumL l < 900
  asc : l.Pairwise fun r q => dataLt (rowD r.1) (rowD q.1) = true
theorem rowD_alike (a b : List Int) : alike (rowD a) (rowD b) = true := by
  show alike (.tuple (a.map .int)) (.tuple (b.map .int)) = true
  rw [alike]
  exact PySem.W.alike_ints a b
theorem rowD_depth (a : List Int) : (rowD a).depth = 1 := by
  show PyData.depth (.tuple (a.map .int)) = 1
  simp [PyData.depth, PySem.W.depth_ints]
theorem e_geRow (a b : List Int) : oGe (.dat (rowD a)) (.dat (rowD b)) = some (.bool (!dataLt (rowD a) (rowD b))) := by
  have h1 : oGeI (.dat (rowD a)) (.dat (rowD b)) = none := rfl
  have h2 : oOrd.nBot2 (rowD a) = true := rfl
  unfold oGe orO
  rw [h1]
  simp [oGeD, oOrd, rowD_alike, h2, dpt, rowD_depth]
theorem red_gcd (x S : Nat) (hS : 0 < S) : Int.gcd (red (x : Int) S).1 (red (x : Int) S).2 = 1 := by
  rw [red_nat]
  have hg : 0 < Nat.gcd x S := Nat.gcd_pos_of_pos_right x hS
  simp only [Int.gcd_natCast_natCast]
  rw [Nat.gcd_div (Nat.gcd_dvd_left x S) (Nat.gcd_dvd_right x S), Nat.div_self hg]
theorem red_one (S : Nat) (hS : 0 < S) : red (S : Int) S = (1, 1) := by
  rw [red_nat]
  simp [Nat.div_self hS]
theorem mem_sum {l : List Nat} {x : Nat} (h : x ∈ l) : x ≤ l.sum := by
  induction l with
  | nil => cases h
  | cons y l ih =>
    rw [List.sum_cons]
    rcases List.mem_cons.mp h with rfl | h
    · omega
    · have := ih h; omega
theorem t_litters (k many : Nat) (hm : many ≤ 100) (l : Lit) (h : LitOk many l) : tab (k + 5) "are_litters" [D (litD l), I many] = some (.ok (D (.bool true)) [D (litD l), I many]) := by
  rw [tab_are_litters]
  generalize hS : sumL l = S
  have hlen := h.len
  have hne : 0 < l.length := List.length_pos_iff.mpr h.ne
  have few : S < 900 := hS ▸ h.few
  have pos : 0 < S := by
    obtain ⟨r, l', rfl⟩ := List.exists_cons_of_ne_nil h.ne
    have := h.load r List.mem_cons_self
    have := mem_sum (l := (r :: l').map (·.2)) (x := r.2) (by simp)
    unfold sumL at hS
    omega
  have eL : litD l = .tuple (l.map (rwD S)) := by unfold litD; rw [hS]
  rw [eL]
  generalize hd : (D (.tuple (l.map (rwD S)))) = d0
  have hv0 : ∀ {b c e : Option Val}, cVar 0 [some d0, some (I many), b, c, e] = some (.ok (D (.tuple (l.map (rwD S)))) [some d0, some (I many), b, c, e]) := fun {b c e} => by rw [← hd]; exact var rfl
  -- the tests ahead
  have ht1 : cOrB (cNotB (cTst (cIs "tuple" (cVar 0)))) (cNotB (cTst (cChain oLe oLe (cC (.int 1)) (cB bLen (aCons (cVar 0) aNil)) (cC (.int 8))))) [some d0, some (I many), none, none, none] = some (.ok false [some d0, some (I many), none, none, none]) := by
    have := orB1 (notB1 (tst (isT hv0 rfl k_tt))) (fun _ => notB1 (tst (chain_le (const (.int 1) _) (b1_lenT (hv0 (b := none) (c := none) (e := none))) (const (.int 8) _))))
    have a1 : (1 : Int) ≤ l.length := by omega
    have a2 : (l.length : Int) ≤ 8 := by omega
    simpa [a1, a2] using this
  -- a row
  have hloop : ∀ r ∈ l, (bSeq (sIf (cOrB (cNotB (cTst (cIs "tuple" (cVar 2)))) (cOrB (cTst (cBin oNee (cB bLen (aCons (cVar 2) aNil)) (cC (.int (2))))) (cNotB (cTst (cCall (tab (k + 4)) "is_lot" (aCons (cBin oIx (cVar 2) (cC (.int (0)))) (aCons (cVar 1) (aCons (cC (.int (6))) aNil)))))))) (sRet (cC (.bool false))) bNil) (sIf (cOrB (cNotB (cTst (cCall (tab (k + 4)) "is_chance" (aCons (cBin oIx (cVar 2) (cC (.int (1)))) aNil)))) (cTst (cBin oEqq (cBin oIx (cBin oIx (cVar 2) (cC (.int (1)))) (cC (.int (0)))) (cC (.int (0)))))) (sRet (cC (.bool false))) bNil)) ([some d0, some (I many), none, none, none].set 2 (some (D (rwD S r)))) = some (.ok .nx ([some d0, some (I many), none, none, none].set 2 (some (D (rwD S r))))) := fun r hr => by
    obtain ⟨l1, l2, l3⟩ := h.lot r hr
    have lo := h.load r hr
    have xle : r.2 ≤ S := hS ▸ mem_sum (List.mem_map.mpr ⟨r, hr, rfl⟩)
    obtain ⟨b1, b2, b3, b4⟩ := red_bd r.2 S pos xle
    show bSeq _ _ [some d0, some (I many), some (D (rwD S r)), none, none] = some (.ok .nx [some d0, some (I many), some (D (rwD S r)), none, none])
    have hv2 : cVar 2 [some d0, some (I many), some (D (rwD S r)), none, none] = some (.ok (D (.tuple [rowD r.1, pd (red (r.2 : Int) S)])) [some d0, some (I many), some (D (rwD S r)), none, none]) := var rfl
    have hv1 : cVar 1 [some d0, some (I many), some (D (rwD S r)), none, none] = some (.ok (I many) [some d0, some (I many), some (D (rwD S r)), none, none]) := var rfl
    have i0 := ixT hv2 (const (.int 0) _) atI_0
    have i1 := ixT hv2 (const (.int 1) _) atI_1
    have hlot := t_lot (k + 2) r.1 many 6 (by omega) (by omega) l2 l3
    have hch := t_chance (k + 1) _ _ b1 b2 b3 (by omega) (red_gcd r.2 S pos)
    have c1 : cOrB (cNotB (cTst (cIs "tuple" (cVar 2)))) (cOrB (cTst (cBin oNee (cB bLen (aCons (cVar 2) aNil)) (cC (.int (2))))) (cNotB (cTst (cCall (tab (k + 4)) "is_lot" (aCons (cBin oIx (cVar 2) (cC (.int (0)))) (aCons (cVar 1) (aCons (cC (.int (6))) aNil))))))) [some d0, some (I many), some (D (rwD S r)), none, none] = some (.ok false [some d0, some (I many), some (D (rwD S r)), none, none]) := by
      have := orB1 (notB1 (tst (isT hv2 rfl k_tt))) (fun _ => orB1 (tst (bin (b1_lenT hv2) (const (.int 2) _) (e_neI _ _))) (fun _ => notB1 (tst (call3 i0 hv1 (const (.int 6) _) hlot))))
      simpa using this
    have nz : ((red (r.2 : Int) S).1 == 0) = false := by
      rw [red_nat]
      have hg := Nat.gcd_pos_of_pos_right r.2 pos
      have : 0 < r.2 / Nat.gcd r.2 S := Nat.div_pos (Nat.le_of_dvd lo (Nat.gcd_dvd_left r.2 S)) hg
      simp only
      rw [beq_eq_false_iff_ne]
      omega
    have c2 : cOrB (cNotB (cTst (cCall (tab (k + 4)) "is_chance" (aCons (cBin oIx (cVar 2) (cC (.int (1)))) aNil)))) (cTst (cBin oEqq (cBin oIx (cBin oIx (cVar 2) (cC (.int (1)))) (cC (.int (0)))) (cC (.int (0))))) [some d0, some (I many), some (D (rwD S r)), none, none] = some (.ok false [some d0, some (I many), some (D (rwD S r)), none, none]) := by
      have := orB1 (notB1 (tst (call1 i1 hch))) (fun _ => tst (bin (ixT i1 (const (.int 0) _) atI_0) (const (.int 0) _) (e_eqI _ _)))
      simpa [nz] using this
    rw [seq_nx ((if_no c1).trans rfl)]
    exact (if_no c2).trans rfl
  obtain ⟨o', hfor⟩ := forL_keep (np := 2) (v := 2) (by omega) (rwD S) l hloop none
  have hfor' : sFor (iSeq (cVar 0)) (tName 2 2) (bSeq (sIf (cOrB (cNotB (cTst (cIs "tuple" (cVar 2)))) (cOrB (cTst (cBin oNee (cB bLen (aCons (cVar 2) aNil)) (cC (.int (2))))) (cNotB (cTst (cCall (tab (k + 4)) "is_lot" (aCons (cBin oIx (cVar 2) (cC (.int (0)))) (aCons (cVar 1) (aCons (cC (.int (6))) aNil)))))))) (sRet (cC (.bool false))) bNil) (sIf (cOrB (cNotB (cTst (cCall (tab (k + 4)) "is_chance" (aCons (cBin oIx (cVar 2) (cC (.int (1)))) aNil)))) (cTst (cBin oEqq (cBin oIx (cBin oIx (cVar 2) (cC (.int (1)))) (cC (.int (0)))) (cC (.int (0)))))) (sRet (cC (.bool false))) bNil)) [some d0, some (I many), none, none, none] = some (.ok .nx [some d0, some (I many), o', none, none]) := by
    unfold sFor iSeq
    rw [hv0, bnd_ok]
    simp only [items, bnd_ok]
    exact hfor
  -- the lots
  have hlots : cLc [2] (iSeq (cVar 0)) (tName 0 2) cYes (cBin oIx (cVar 2) (cC (.int (0)))) [some d0, some (I many), o', none, none] = some (.ok (D (.list (l.map fun r => rowD r.1))) [some d0, some (I many), o', none, none]) := by
    rw [← filterMap_some]
    refine lc_map l (rwD S) _ (by simp [iSeq, hv0, items]) (by simp) (by omega) fun r hr => step_yes rfl ?_
    exact ixT (var (by simp [wipeE]; rfl)) (const (.int 0) _) atI_0
  have hchs : ∀ {ρ3 : Option Val}, cLc [2] (iSeq (cVar 0)) (tName 0 2) cYes (cBin oIx (cVar 2) (cC (.int (1)))) [some d0, some (I many), o', ρ3, none] = some (.ok (D (partsOf S (l.map (·.2)))) [some d0, some (I many), o', ρ3, none]) := fun {ρ3} => by
    have e : partsOf S (l.map (·.2)) = .list (l.filterMap fun r => some (pd (red (r.2 : Int) S))) := by
      unfold partsOf
      rw [filterMap_some, List.map_map]
      rfl
    rw [e]
    refine lc_map l (rwD S) _ (by simp [iSeq, hv0, items]) (by simp) (by omega) fun r hr => step_yes rfl ?_
    exact ixT (var (by simp [wipeE]; rfl)) (const (.int 1) _) atI_1
  have hv3 : ∀ {e : Option Val}, cVar 3 [some d0, some (I many), o', some (D (.list (l.map fun r => rowD r.1))), e] = some (.ok (D (.list (l.map fun r => rowD r.1))) [some d0, some (I many), o', some (D (.list (l.map fun r => rowD r.1))), e]) := fun {e} => var rfl
  have hasc : cLc [4] (iRng (aCons (cBin oSub (cB bLen (aCons (cVar 3) aNil)) (cC (.int (1)))) aNil)) (tName 0 4) cYes (cBin oGe (cBin oIx (cVar 3) (cVar 4)) (cBin oIx (cVar 3) (cBin oAdd (cVar 4) (cC (.int (1)))))) [some d0, some (I many), o', some (D (.list (l.map fun r => rowD r.1))), none]
      = some (.ok (D (.list (((List.range (l.length - 1)).map fun _ => false).map .bool))) [some d0, some (I many), o', some (D (.list (l.map fun r => rowD r.1))), none]) := by
    have e : ((List.range (l.length - 1)).map fun _ => false).map PyData.bool = (List.range (l.length - 1)).filterMap fun _ => some (.bool false) := by
      rw [filterMap_some, List.map_map]
      rfl
    rw [e]
    have hn := bin (b1_len (hv3 (e := none))) (const (.int 1) _) (e_subI _ _)
    refine lc_map (List.range (l.length - 1)) (fun i : Nat => .int (i : Int)) _ ?_ (by simp) (by simp; omega) fun i hi => step_yes rfl ?_
    · unfold iRng
      simp only [aCons, aNil, hn, bnd_ok, argOk_dat, if_true, rngOf]
      have e1 : (((l.map fun r => rowD r.1).length : Int) - 1) = ((l.length - 1 : Nat) : Int) := by rw [List.length_map]; omega
      rw [e1, if_pos (inR_nat (by omega)), Int.toNat_natCast, rng_enc]
    · have hi' := List.mem_range.mp hi
      have w4 : ((wipeE [some d0, some (I many), o', some (D (.list (l.map fun r => rowD r.1))), none] [4]).set 4 (some (.dat (.int (i : Int))))) = [some d0, some (I many), o', some (D (.list (l.map fun r => rowD r.1))), some (I (i : Int))] := rfl
      rw [w4]
      have v4 : cVar 4 [some d0, some (I many), o', some (D (.list (l.map fun r => rowD r.1))), some (I (i : Int))] = some (.ok (I (i : Int)) [some d0, some (I many), o', some (D (.list (l.map fun r => rowD r.1))), some (I (i : Int))]) := var rfl
      have a1 : (l.map fun r => rowD r.1)[i]? = some (rowD (l[i]'(by omega)).1) := by rw [List.getElem?_map, List.getElem?_eq_getElem (by omega)]; rfl
      have a2 : (l.map fun r => rowD r.1)[i + 1]? = some (rowD (l[i + 1]'(by omega)).1) := by rw [List.getElem?_map, List.getElem?_eq_getElem (by omega)]; rfl
      have x1 := ixL (hv3 (e := some (I (i : Int)))) v4 (atI_nat a1)
      have x2 := ixL (hv3 (e := some (I (i : Int)))) (bin v4 (const (.int 1) _) (e_addI _ _)) (show L2.atI (l.map fun r => rowD r.1) ((i : Int) + 1) = _ from atI_nat a2)
      have hlt : dataLt (rowD (l[i]'(by omega)).1) (rowD (l[i + 1]'(by omega)).1) = true := List.pairwise_iff_getElem.mp h.asc i (i + 1) (by omega) (by omega) (by omega)
      have := bin x1 x2 (e_geRow _ _)
      rw [hlt] at this
      exact this
  have hany := tst (b1_any hasc)
  have none_ : ((List.range (l.length - 1)).map fun _ => false).any id = false := by simp
  rw [none_] at hany
  have htot := t_total k S (l.map (·.2)) pos few (by rw [← hS]; exact Nat.le_refl _)
  have hsum : (l.map (·.2)).sum = S := hS
  rw [hsum, red_one S pos] at htot
  have hone : cTup (aCons (cC (.int (1))) (aCons (cC (.int (1))) aNil)) [some d0, some (I many), o', some (D (.list (l.map fun r => rowD r.1))), none] = some (.ok (D (pd (1, 1))) [some d0, some (I many), o', some (D (.list (l.map fun r => rowD r.1))), none]) := by
    simp [cTup, aCons, aNil, cC, finTup, okLen]
  have hfin := bin (call1 hchs htot) hone (e_eqD (by simp [PyData.depth, PyData.depthAll]))
  have hbody : b_are_litters (tab (k + 4)) [some d0, some (I many), none, none, none] = some (.ok (.rt (D (.bool true))) [some d0, some (I many), o', some (D (.list (l.map fun r => rowD r.1))), none]) := by
    unfold b_are_litters
    rw [seq_nx ((if_no ht1).trans rfl), seq_nx hfor', seq_nx (set_d hlots (by omega))]
    show bSeq _ _ [some d0, some (I many), o', some (D (.list (l.map fun r => rowD r.1))), none] = _
    rw [seq_nx ((if_no hany).trans rfl), ret_d hfin]
    simp [PyData.eqv, PyData.eqvAll]
  exact run_d rfl hbody (by simp) (by rw [← hd]; rfl)
end PP.K03

end
section
set_option Elab.async false
set_option linter.all false
set_option maxRecDepth 100000
set_option maxHeartbeats 1000000
/-! K03h: books. -/
namespace PP.K03
open PySem PySem.Spec PyProof.Rows L2 PP
open PySem.W (dataLt alike alikeAll)

structure Bk where
  n : Nat
  lit : List Lit
  start : List Int
def nmS (n : Nat) : List Str := (["a", "b", "c"].take n).map Str.ofString
def nms (n : Nat) : List PyData := (nmS n).map .str
def bkD (b : Bk) : PyData := .tuple [nm "book", .tuple (nms b.n), .tuple (b.lit.map litD), rowD b.start]
structure BkOk (b : Bk) : Prop where
  n1 : 1 ≤ b.n
  n3 : b.n ≤ 3
  ln : b.lit.length = b.n
  li : ∀ l ∈ b.lit, LitOk b.n l
  sl : b.start.length = b.n
  sv : ∀ x ∈ b.start, 0 ≤ x ∧ x ≤ 20
  ss : b.start.sum ≤ 20
theorem nms_len {n : Nat} (h : n ≤ 3) : (nms n).length = n := by
  simp [nms, nmS]; omega
theorem nmS_dd {n : Nat} (h1 : 1 ≤ n) (h3 : n ≤ 3) : (dd (nmS n)).length = n := by
  rcases (show n = 1 ∨ n = 2 ∨ n = 3 by omega) with rfl | rfl | rfl <;> decide +kernel
theorem nms_strs (n : Nat) : strsOf (nms n) = some (nmS n) := strsOf_of _
theorem nms_mem {n : Nat} {d : PyData} (h : d ∈ nms n) : ∃ s, (s = "a" ∨ s = "b" ∨ s = "c") ∧ d = nm s := by
  unfold nms nmS at h
  rw [List.map_map] at h
  obtain ⟨s, hs, rfl⟩ := List.mem_map.mp h
  have := List.mem_of_mem_take hs
  simp only [List.mem_cons, List.not_mem_nil, or_false] at this
  exact ⟨s, this, rfl⟩
section
variable {b : Bk} {ρ : PP.Env}
theorem bk1 {f : Ev} (h : f ρ = some (.ok (D (bkD b)) ρ)) : cBin oIx f (cC (.int 1)) ρ = some (.ok (D (.tuple (nms b.n))) ρ) := ixT h (const (.int 1) _) atI_1
theorem bk2 {f : Ev} (h : f ρ = some (.ok (D (bkD b)) ρ)) : cBin oIx f (cC (.int 2)) ρ = some (.ok (D (.tuple (b.lit.map litD))) ρ) := ixT h (const (.int 2) _) atI_2
theorem bk3 {f : Ev} (h : f ρ = some (.ok (D (bkD b)) ρ)) : cBin oIx f (cC (.int 3)) ρ = some (.ok (D (rowD b.start)) ρ) := ixT h (const (.int 3) _) atI_3
theorem bkN {f : Ev} (o : BkOk b) (h : f ρ = some (.ok (D (bkD b)) ρ)) : cB bLen (aCons (cBin oIx f (cC (.int 1))) aNil) ρ = some (.ok (I (b.n : Int)) ρ) := by
  have := b1_lenT (bk1 h)
  rwa [nms_len o.n3] at this
end
theorem t_book (k : Nat) (b : Bk) (o : BkOk b) : tab (k + 6) "is_book" [D (bkD b)] = some (.ok (D (.bool true)) [D (bkD b)]) := by
  rw [tab_is_book]
  generalize hd : D (bkD b) = d0
  have hv0 : ∀ {x y : Option Val}, cVar 0 [some d0, x, y] = some (.ok (D (bkD b)) [some d0, x, y]) := fun {x y} => by rw [← hd]; exact var rfl
  have n1 := o.n1
  have n3 := o.n3
  have e0 : L2.atI [nm "book", .tuple (nms b.n), .tuple (b.lit.map litD), rowD b.start] 0 = some (nm "book") := atI_0
  have ht1 : cOrB (cNotB (cTst (cIs "tuple" (cVar 0)))) (cOrB (cTst (cBin oNee (cB bLen (aCons (cVar 0) aNil)) (cC (.int (4))))) (cOrB (cTst (cBin oNee (cBin oIx (cVar 0) (cC (.int (0)))) (cC (.str (Str.ofString "book"))))) (cNotB (cTst (cIs "tuple" (cBin oIx (cVar 0) (cC (.int (1))))))))) [some d0, none, none] = some (.ok false [some d0, none, none]) := by
    have := orB1 (notB1 (tst (isT (hv0 (x := none) (y := none)) rfl k_tt))) (fun _ => orB1 (tst (bin (b1_lenT hv0) (const (.int 4) _) (e_neI _ _))) (fun _ => orB1 (tst (bin (ixT hv0 (const (.int 0) _) e0) (const (.str (Str.ofString "book")) _) (e_neD (by simp [PyData.depth])))) (fun _ => notB1 (tst (isT (bk1 hv0) rfl k_tt)))))
    simpa [nm, PyData.eqv] using this
  have hmany := bkN o (hv0 (x := none) (y := none))
  have hnames : cLc [2] (iSeq (cBin oIx (cVar 0) (cC (.int (1))))) (tName 0 2) cYes (cCall (tab (k + 5)) "is_name" (aCons (cVar 2) aNil)) [some d0, some (I (b.n : Int)), none] = some (.ok (D (.list (((nms b.n).map fun _ => true).map .bool))) [some d0, some (I (b.n : Int)), none]) := by
    have e : ((nms b.n).map fun _ => true).map PyData.bool = (nms b.n).filterMap fun _ => some (.bool true) := by
      rw [filterMap_some, List.map_map]; rfl
    rw [e]
    refine lc_map (nms b.n) id _ (by simp [iSeq, bk1 hv0, items]) (by simp) (by rw [nms_len n3]; omega) fun d hd2 => step_yes rfl ?_
    obtain ⟨s, hs, rfl⟩ := nms_mem hd2
    exact call1 (var (by simp [wipeE])) (t_name (k + 4) s hs)
  have hsetl : cLs (cBin oIx (cVar 0) (cC (.int (1)))) [some d0, some (I (b.n : Int)), none] = some (.ok (I (b.n : Int)) [some d0, some (I (b.n : Int)), none]) := by
    have hl : (nmS b.n).length ≤ 4000 := by simp [nmS]; omega
    simp [cLs, bk1 hv0, finLs, nms_strs, nmS_dd n1 n3, hl]
  have ht2 : cOrB (cNotB (cTst (cChain oLe oLe (cC (.int (1))) (cVar 1) (cC (.int (8)))))) (cOrB (cNotB (cTst (cB (bAll fun bs => bs.all id) (aCons (cLc [2] (iSeq (cBin oIx (cVar 0) (cC (.int (1))))) (tName 0 2) cYes (cCall (tab (k + 5)) "is_name" (aCons (cVar 2) aNil))) aNil)))) (cTst (cBin oLt (cLs (cBin oIx (cVar 0) (cC (.int (1))))) (cVar 1)))) [some d0, some (I (b.n : Int)), none] = some (.ok false [some d0, some (I (b.n : Int)), none]) := by
    have := orB1 (notB1 (tst (chain_le (const (.int 1) _) (var (i := 1) (ρ := [some d0, some (I (b.n : Int)), none]) rfl) (const (.int 8) _)))) (fun _ => orB1 (notB1 (tst (b1_all hnames))) (fun _ => tst (bin hsetl (var (i := 1) rfl) (e_ltI _ _))))
    have a1 : (1 : Int) ≤ b.n := by omega
    have a2 : (b.n : Int) ≤ 8 := by omega
    have a3 : (((nms b.n).map fun _ => true).all id) = true := by simp
    rw [a3] at this
    simpa [a1, a2] using this
  have ht3 : cOrB (cNotB (cTst (cIs "tuple" (cBin oIx (cVar 0) (cC (.int (2))))))) (cTst (cBin oNee (cB bLen (aCons (cBin oIx (cVar 0) (cC (.int (2)))) aNil)) (cVar 1))) [some d0, some (I (b.n : Int)), none] = some (.ok false [some d0, some (I (b.n : Int)), none]) := by
    have := orB1 (notB1 (tst (isT (bk2 (hv0 (x := some (I (b.n : Int))) (y := none))) rfl k_tt))) (fun _ => tst (bin (b1_lenT (bk2 hv0)) (var (i := 1) rfl) (e_neI _ _)))
    simpa [o.ln] using this
  have hlits : cLc [2] (iSeq (cBin oIx (cVar 0) (cC (.int (2))))) (tName 0 2) cYes (cCall (tab (k + 5)) "are_litters" (aCons (cVar 2) (aCons (cVar 1) aNil))) [some d0, some (I (b.n : Int)), none] = some (.ok (D (.list ((b.lit.map fun _ => true).map .bool))) [some d0, some (I (b.n : Int)), none]) := by
    have e : (b.lit.map fun _ => true).map PyData.bool = b.lit.filterMap fun _ => some (.bool true) := by
      rw [filterMap_some, List.map_map]; rfl
    rw [e]
    refine lc_map b.lit litD _ (by simp [iSeq, bk2 hv0, items]) (by simp) (by rw [o.ln]; omega) fun l hl => step_yes rfl ?_
    exact call2 (var (by simp [wipeE])) (var (by simp [wipeE])) (t_litters k b.n (by omega) l (o.li l hl))
  have hst := t_lot (k + 3) b.start b.n 20 (by rw [o.sl]; omega) (by rw [o.sl]) o.sv o.ss
  have hfin := and1 (b1_all hlits) (fun _ => call3 (bk3 hv0) (var (i := 1) rfl) (const (.int 20) _) hst)
  have hbody : b_is_book (tab (k + 5)) [some d0, none, none] = some (.ok (.rt (D (.bool true))) [some d0, some (I (b.n : Int)), none]) := by
    unfold b_is_book
    rw [seq_nx ((if_no ht1).trans rfl), seq_nx (set_d hmany (by omega))]
    show bSeq _ _ [some d0, some (I (b.n : Int)), none] = _
    rw [seq_nx ((if_no ht2).trans rfl), seq_nx ((if_no ht3).trans rfl), ret_d hfin]
    simp
  exact run_d rfl hbody (by simp) (by rw [← hd]; rfl)
end PP.K03

end
section
set_option Elab.async false
set_option linter.all false
set_option maxRecDepth 100000
set_option maxHeartbeats 1000000
/-! K03i: what is asked of books. -/
namespace PP.K03
open PySem PySem.Spec PyProof.Rows L2 PP

/-- the count of kind j in a lot -/
def at_ (r : List Int) (j : Nat) : Int := r.getD j 0
theorem ix_row {r : List Int} {j : Nat} (h : j < r.length) : L2.atI (r.map PyData.int) (j : Int) = some (.int (at_ r j)) := by
  refine atI_nat ?_
  rw [List.getElem?_map, List.getElem?_eq_getElem h]
  simp [at_, List.getD, h]
def litN (b : Bk) (k : Nat) : Lit := b.lit.getD k []
def hasF (r : List Int) (js : List Nat) : Bool := js.any fun j => decide (0 < at_ r j)
def Adj (b : Bk) (k j : Nat) : Bool := (litN b k).any fun r => decide (0 < at_ r.1 j)
def chF (b : Bk) (k : Nat) : List Nat := (List.range b.n).filter (Adj b k)
theorem litN_ok {b : Bk} (o : BkOk b) {k : Nat} (h : k < b.n) : LitOk b.n (litN b k) := by
  have hk : k < b.lit.length := by rw [o.ln]; exact h
  unfold litN
  rw [List.getD_eq_getElem?_getD, List.getElem?_eq_getElem hk]
  exact o.li _ (List.getElem_mem hk)
section
variable {b : Bk} {ρ : PP.Env}
theorem bkL {f g : Ev} {k : Nat} (o : BkOk b) (hk : k < b.n) (h : f ρ = some (.ok (D (bkD b)) ρ)) (hg : g ρ = some (.ok (I (k : Int)) ρ)) : cBin oIx (cBin oIx f (cC (.int 2))) g ρ = some (.ok (D (litD (litN b k))) ρ) := by
  refine ixT (bk2 h) hg (atI_nat ?_)
  have hk' : k < b.lit.length := by rw [o.ln]; exact hk
  rw [List.getElem?_map, List.getElem?_eq_getElem hk']
  simp [litN, List.getD, hk']
theorem it_lit {f g : Ev} {k : Nat} (o : BkOk b) (hk : k < b.n) (h : f ρ = some (.ok (D (bkD b)) ρ)) (hg : g ρ = some (.ok (I (k : Int)) ρ)) : iSeq (cBin oIx (cBin oIx f (cC (.int 2))) g) ρ = some (.ok ((litN b k).map (rwD (sumL (litN b k)))) ρ) := it_T (bkL o hk h hg)
theorem it_many {f : Ev} (o : BkOk b) (h : f ρ = some (.ok (D (bkD b)) ρ)) : iRng (aCons (cB bLen (aCons (cBin oIx f (cC (.int 1))) aNil)) aNil) ρ = some (.ok ((List.range b.n).map fun i : Nat => .int (i : Int)) ρ) :=
  it_rng (bkN o h) (by have := o.n3; omega)
end
theorem t_one_of (k : Nat) (b : Bk) (o : BkOk b) (j : Nat) : tab (k + 1) "one_of" [D (bkD b), I j] = some (.ok (D (rowD ((List.range b.n).map fun i => if i = j then 1 else 0))) [D (bkD b), I j]) := by
  rw [tab_one_of]
  have h3 := o.n3
  have hbody : b_one_of (tab k) [some (D (bkD b)), some (I j), none] = some (.ok (.rt (D (rowD ((List.range b.n).map fun i => if i = j then 1 else 0)))) [some (D (bkD b)), some (I j), none]) := by
    unfold b_one_of
    refine ret_d (b1_tup (lc_mi (List.range b.n) _ (fun i => if i = j then 1 else 0) (it_many o (var rfl)) (by simp) (by simp; omega) fun i hi => ?_))
    have := b1 (bin (var (d := .int (i : Int)) (i := 2) rfl) (var (d := .int (j : Int)) (i := 1) rfl) (e_eqI (i : Int) (j : Int))) (e_intB _) (ρ := ((wipeE [some (D (bkD b)), some (I j), none] [2]).set 2 (some (.dat (.int (i : Int))))))
    rw [this]
    by_cases e : i = j
    · subst e; simp
    · have : ((i : Int) == (j : Int)) = false := by rw [beq_eq_false_iff_ne]; omega
      simp [this, e]
  exact run_d rfl hbody (by simp) rfl
theorem reps_one (n : Nat) (d : PyData) : reps n [d] = List.replicate n d := by
  induction n with
  | zero => rfl
  | succ n ih => rw [List.replicate_succ, ← ih]; rfl
theorem e_repT {n : Nat} (h : 1 ≤ n) (h2 : n ≤ 1000) (d : PyData) : oMul (D (.tuple [d])) (I (n : Int)) = some (.tuple (List.replicate n d)) := by
  have a : (1 : Int) ≤ n := by omega
  have c : (n : Int) ≤ 1000 := by omega
  have h0 : oMulI (D (.tuple [d])) (I (n : Int)) = none := rfl
  simp [oMul, orO, h0, oRepT, a, c, reps_one]
theorem t_nothing (k : Nat) (b : Bk) (o : BkOk b) : tab (k + 1) "nothing" [D (bkD b)] = some (.ok (D (rowD (List.replicate b.n 0))) [D (bkD b)]) := by
  rw [tab_nothing]
  have h3 := o.n3
  have h1 := o.n1
  have hbody : b_nothing (tab k) [some (D (bkD b))] = some (.ok (.rt (D (rowD (List.replicate b.n 0)))) [some (D (bkD b))]) := by
    unfold b_nothing
    have e : rowD (List.replicate b.n 0) = .tuple (List.replicate b.n (.int 0)) := by unfold rowD; rw [List.map_replicate]
    rw [e]
    refine ret_d (bin (a := .tuple [.int 0]) ?_ (bkN o (var rfl)) (e_repT h1 (by omega) _))
    rfl
  exact run_d rfl hbody (by simp) rfl
theorem t_together (k : Nat) (r q : List Int) (n : Nat) (h1 : r.length = n) (h2 : q.length = n) (h3 : n ≤ 3) (hb : ∀ i, (at_ r i).natAbs < 1000 ∧ (at_ q i).natAbs < 1000) : tab (k + 1) "together" [D (rowD r), D (rowD q)] = some (.ok (D (rowD ((List.range n).map fun i => at_ r i + at_ q i))) [D (rowD r), D (rowD q)]) := by
  rw [tab_together]
  have hbody : b_together (tab k) [some (D (rowD r)), some (D (rowD q)), none] = some (.ok (.rt (D (rowD ((List.range n).map fun i => at_ r i + at_ q i)))) [some (D (rowD r)), some (D (rowD q)), none]) := by
    unfold b_together
    have hn := b1_lenT (var (ρ := [some (D (rowD r)), some (D (rowD q)), none]) (i := 0) (d := .tuple (r.map .int)) rfl)
    rw [List.length_map, h1] at hn
    refine ret_d (b1_tup (lc_mi (List.range n) _ (fun i => at_ r i + at_ q i) (it_rng hn (by omega)) (by simp) (by simp; omega) fun i hi => ?_))
    have hi' := List.mem_range.mp hi
    exact bin (ixT (var rfl) (var rfl) (ix_row (by omega))) (ixT (var rfl) (var rfl) (ix_row (by omega))) (e_addI _ _)
  exact run_d rfl hbody (by simp) rfl
theorem t_has (k : Nat) (r : List Int) (js : List Nat) (h : ∀ j ∈ js, j < r.length) (hl : js.length ≤ 1000) : tab (k + 1) "has" [D (rowD r), D (nl js)] = some (.ok (D (.bool (hasF r js))) [D (rowD r), D (nl js)]) := by
  rw [tab_has]
  have hbody : b_has (tab k) [some (D (rowD r)), some (D (nl js)), none] = some (.ok (.rt (D (.bool (hasF r js)))) [some (D (rowD r)), some (D (nl js)), none]) := by
    unfold b_has
    have := b1_any (lc_mb js (fun i : Nat => .int (i : Int)) (fun j => decide (0 < at_ r j)) (it_L (ρ := [some (D (rowD r)), some (D (nl js)), none]) (f := cVar 1) (var rfl)) (v := 2) (e := cBin oGt (cBin oIx (cVar 0) (cVar 2)) (cC (.int 0))) (by simp) (by omega) fun j hj => bin (ixT (var rfl) (var rfl) (ix_row (h j hj))) (const (.int 0) _) (e_gtI _ _))
    rw [List.any_map] at this
    exact ret_d this
  exact run_d rfl hbody (by simp) rfl
theorem t_hasT (k : Nat) (r : List Int) (js : List Nat) (h : ∀ j ∈ js, j < r.length) (hl : js.length ≤ 1000) : tab (k + 1) "has" [D (rowD r), D (.tuple (iz js))] = some (.ok (D (.bool (hasF r js))) [D (rowD r), D (.tuple (iz js))]) := by
  rw [tab_has]
  have hbody : b_has (tab k) [some (D (rowD r)), some (D (.tuple (iz js))), none] = some (.ok (.rt (D (.bool (hasF r js)))) [some (D (rowD r)), some (D (.tuple (iz js))), none]) := by
    unfold b_has
    have := b1_any (lc_mb js (fun i : Nat => .int (i : Int)) (fun j => decide (0 < at_ r j)) (it_T (ρ := [some (D (rowD r)), some (D (.tuple (iz js))), none]) (f := cVar 1) (var rfl)) (v := 2) (e := cBin oGt (cBin oIx (cVar 0) (cVar 2)) (cC (.int 0))) (by simp) (by omega) fun j hj => bin (ixT (var rfl) (var rfl) (ix_row (h j hj))) (const (.int 0) _) (e_gtI _ _))
    rw [List.any_map] at this
    exact ret_d this
  exact run_d rfl hbody (by simp) rfl
theorem t_children (k : Nat) (b : Bk) (o : BkOk b) (kd : Nat) (hk : kd < b.n) : tab (k + 1) "children" [D (bkD b), I kd] = some (.ok (D (nl (chF b kd))) [D (bkD b), I kd]) := by
  rw [tab_children]
  have h3 := o.n3
  have lo := litN_ok o hk
  have hbody : b_children (tab k) [some (D (bkD b)), some (I kd), none, none] = some (.ok (.rt (D (nl (chF b kd)))) [some (D (bkD b)), some (I kd), none, none]) := by
    unfold b_children
    refine ret_d (lc_f (List.range b.n) _ (Adj b kd) (fun i : Nat => .int (i : Int)) (it_many o (var rfl)) (by simp) (by simp; omega) (fun i hi => ?_) fun i hi hp => var rfl)
    have hi' := List.mem_range.mp hi
    have := tst (b1_any (lc_mb (litN b kd) (rwD (sumL (litN b kd))) (fun r => decide (0 < at_ r.1 i)) (it_lit o hk (f := cVar 0) (g := cVar 1) (ρ := ((wipeE [some (D (bkD b)), some (I kd), none, none] [2]).set 2 (some (.dat (.int (i : Int)))))) (var rfl) (var rfl)) (v := 3) (e := cBin oGt (cBin oIx (cBin oIx (cVar 3) (cC (.int 0))) (cVar 2)) (cC (.int 0))) (by simp [wipeE]) (by have := lo.len; omega) fun r hr => bin (ixT (ixT (var rfl) (const (.int 0) _) atI_0) (var rfl) (ix_row (by have := (lo.lot r hr).1; omega))) (const (.int 0) _) (e_gtI _ _)))
    rw [List.any_map] at this
    exact this
  exact run_d rfl hbody (by simp) rfl
theorem t_started (k : Nat) (b : Bk) (o : BkOk b) : tab (k + 1) "started" [D (bkD b)] = some (.ok (D (nl ((List.range b.n).filter fun j => decide (0 < at_ b.start j)))) [D (bkD b)]) := by
  rw [tab_started]
  have h3 := o.n3
  have hbody : b_started (tab k) [some (D (bkD b)), none] = some (.ok (.rt (D (nl ((List.range b.n).filter fun j => decide (0 < at_ b.start j))))) [some (D (bkD b)), none]) := by
    unfold b_started
    refine ret_d (lc_f (List.range b.n) _ (fun j => decide (0 < at_ b.start j)) (fun i : Nat => .int (i : Int)) (it_many o (var rfl)) (by simp) (by simp; omega) (fun i hi => ?_) fun i hi hp => var rfl)
    have hi' := List.mem_range.mp hi
    exact tst (bin (ixT (bk3 (var rfl)) (var rfl) (ix_row (by rw [o.sl]; exact hi'))) (const (.int 0) _) (e_gtI _ _))
  exact run_d rfl hbody (by simp) rfl
def wsD (b : Bk) (r : List Int) : PyData := .tuple [nm "book", .tuple (nms b.n), .tuple (b.lit.map litD), rowD r]
theorem ws_e {b : Bk} {ρ : PP.Env} {f g : Ev} {r : List Int} (h : f ρ = some (.ok (D (bkD b)) ρ)) (hg : g ρ = some (.ok (D (rowD r)) ρ)) : cBin oAdd (cSl f oNone (oSome (cC (.int (3))))) (cTup (aCons g aNil)) ρ = some (.ok (D (wsD b r)) ρ) := by
  refine bin (a := .tuple [nm "book", .tuple (nms b.n), .tuple (b.lit.map litD)]) (b := .tuple [rowD r]) ?_ ?_ rfl
  · simp only [cSl, h, bnd_ok, oNone, oSome, cC, asI]
    rfl
  · simp only [cTup, a1_ok hg, bnd_ok]
    rfl
theorem t_with (k : Nat) (b : Bk) (r : List Int) : tab (k + 1) "with_start" [D (bkD b), D (rowD r)] = some (.ok (D (wsD b r)) [D (bkD b), D (rowD r)]) := by
  rw [tab_with_start]
  have hbody : b_with_start (tab k) [some (D (bkD b)), some (D (rowD r))] = some (.ok (.rt (D (wsD b r))) [some (D (bkD b)), some (D (rowD r))]) := by
    unfold b_with_start
    exact ret_d (ws_e (var rfl) (var rfl))
  exact run_d rfl hbody (by simp) rfl
end PP.K03

end
section
set_option Elab.async false
set_option linter.all false
set_option maxRecDepth 100000
set_option maxHeartbeats 1000000
/-! K03j: lots of a book: circling, plain, turning back. -/
namespace PP.K03
open PySem PySem.Spec PyProof.Rows L2 PP

def sumF (r : List Int) (js : List Nat) : Int := (js.map (at_ r)).sum
def circF (b : Bk) (js : List Nat) : Bool := js.any fun j => js.any fun k => (chF b j).contains k
def plainF (b : Bk) (js : List Nat) : Bool := js.all fun k => (litN b k).all fun r => sumF r.1 js == 1
def cntF (b : Bk) (js : List Nat) (p : Int → Bool) : Nat := js.foldl (fun s k => s + ((litN b k).filter fun r => p (sumF r.1 js)).length) 0
theorem t_circling (k : Nat) (b : Bk) (o : BkOk b) (js : List Nat) (h : ∀ j ∈ js, j < b.n) (hl : js.length ≤ 100) : tab (k + 2) "is_circling" [D (bkD b), D (nl js)] = some (.ok (D (.bool (circF b js))) [D (bkD b), D (nl js)]) := by
  rw [tab_is_circling]
  have hbody : b_is_circling (tab (k + 1)) [some (D (bkD b)), some (D (nl js)), none, none] = some (.ok (.rt (D (.bool (circF b js)))) [some (D (bkD b)), some (D (nl js)), none, none]) := by
    unfold b_is_circling
    have := lc2_b (v := 2) (u := 3) (it := iSeq (cVar 1)) (it1 := iSeq (cVar 1)) (e := cBin oIn (cVar 3) (cCall (tab (k + 1)) "children" (aCons (cVar 0) (aCons (cVar 2) aNil)))) (ρ := [some (D (bkD b)), some (D (nl js)), none, none]) js (fun i : Nat => .int (i : Int)) (fun _ => js) (fun i : Nat => .int (i : Int)) (fun j k => (chF b j).contains k)
      (it_L (var rfl)) (fun x hx => rfl) (by simp) (fun x hx => it_L (var rfl)) ?_ ?_
    · have := b1_any this
      rw [List.any_flatMap] at this
      simp only [List.any_map] at this
      exact ret_d this
    · have e : ∀ l : List Nat, (l.flatMap fun _ => js).length = l.length * js.length := by
        intro l
        induction l with
        | nil => simp
        | cons x l ih => rw [List.flatMap_cons, List.length_append, ih, List.length_cons, Nat.succ_mul]; omega
      rw [e]
      have := Nat.mul_le_mul hl hl
      omega
    · intro j hj i hi
      exact bin (var rfl) (call2 (var rfl) (var rfl) (t_children k b o j (h j hj))) (e_inL _ _)
  exact run_d rfl hbody (by simp) rfl
section
variable {b : Bk} {js : List Nat}
theorem t_plain (k : Nat) (o : BkOk b) (h : ∀ j ∈ js, j < b.n) (hl : js.length ≤ 100) : tab (k + 1) "is_plain" [D (bkD b), D (nl js)] = some (.ok (D (.bool (plainF b js))) [D (bkD b), D (nl js)]) := by
  rw [tab_is_plain]
  have hbody : b_is_plain (tab k) [some (D (bkD b)), some (D (nl js)), none, none, none] = some (.ok (.rt (D (.bool (plainF b js)))) [some (D (bkD b)), some (D (nl js)), none, none, none]) := by
    unfold b_is_plain
    have := lc2_b (v := 3) (u := 4) (it := iSeq (cVar 1)) (it1 := iSeq (cBin oIx (cBin oIx (cVar 0) (cC (.int (2)))) (cVar 3))) (e := (cBin oEqq (cB bSum (aCons (cLc [2] (iSeq (cVar 1)) (tName 0 2) cYes (cBin oIx (cBin oIx (cVar 4) (cC (.int (0)))) (cVar 2))) aNil)) (cC (.int (1))))) (ρ := [some (D (bkD b)), some (D (nl js)), none, none, none]) js (fun i : Nat => .int (i : Int)) (fun k => (litN b k).map fun r => (sumL (litN b k), r)) (fun r => rwD r.1 r.2) (fun _ r => sumF r.2.1 js == 1)
      (it_L (var rfl)) (fun x hx => rfl) (by simp) (fun x hx => ?_) ?_ ?_
    · have := b1_all this
      rw [List.all_flatMap] at this
      simp only [List.all_map] at this
      exact ret_d this
    · rw [List.map_map]
      exact it_lit o (h x hx) (var rfl) (var rfl)
    · rw [List.length_flatMap]
      have : ∀ (l : List Nat), (∀ j ∈ l, j < b.n) → (l.map fun a => ((litN b a).map fun r => (sumL (litN b a), r)).length).sum ≤ 8 * l.length := by
        intro l
        induction l with
        | nil => intro _; simp
        | cons x l ih =>
          intro hh
          have h1 := ih fun j hj => hh j (List.mem_cons_of_mem _ hj)
          have h2 := (litN_ok o (hh x List.mem_cons_self)).len
          simp only [List.map_cons, List.sum_cons, List.length_cons, List.length_map] at h1 ⊢
          omega
      have := this js h
      omega
    · intro j hj r hr
      obtain ⟨r', hr', rfl⟩ := List.mem_map.mp hr
      have hlen := ((litN_ok o (h j hj)).lot r' hr').1
      exact bin (b1_sum (lc_mi js (fun i : Nat => .int (i : Int)) (at_ r'.1) (it_L (var rfl)) (by simp [wipeE]) (by omega) fun i hi => ixT (ixT (var rfl) (const (.int 0) _) atI_0) (var rfl) (ix_row (show i < r'.1.length by have := h i hi; omega)))) (const (.int 1) _) (e_eqI _ _)
  exact run_d rfl hbody (by simp) rfl
/-- the rows of lit[k] whose sum over the lot does so -/
theorem cnt_go {s : Option Val} {op : Op2} {cst : Int} {p : Int → Bool} (o : BkOk b) (h : ∀ j ∈ js, j < b.n) (hl : js.length ≤ 100) {i : Nat} (hi : i < b.n) (hop : ∀ z : Int, op (I z) (I cst) = some (.bool (p z))) :
    cB bLen (aCons (cLc [4] (iSeq (cBin oIx (cBin oIx (cVar 0) (cC (.int (2)))) (cVar 3))) (tName 0 4) (cTst (cBin op (cB bSum (aCons (cLc [5] (iSeq (cVar 1)) (tName 0 5) cYes (cBin oIx (cBin oIx (cVar 4) (cC (.int (0)))) (cVar 5))) aNil)) (cC (.int cst)))) (cVar 4)) aNil) [some (D (bkD b)), some (D (nl js)), s, some (I (i : Int)), none, none] = some (.ok (I (((litN b i).filter fun r => p (sumF r.1 js)).length : Int)) [some (D (bkD b)), some (D (nl js)), s, some (I (i : Int)), none, none]) := by
  have lo := litN_ok o hi
  have hl2 := lo.len
  have := b1_len (lc_f (v := 4) (c := (cTst (cBin op (cB bSum (aCons (cLc [5] (iSeq (cVar 1)) (tName 0 5) cYes (cBin oIx (cBin oIx (cVar 4) (cC (.int (0)))) (cVar 5))) aNil)) (cC (.int cst))))) (e := cVar 4) (litN b i) (rwD (sumL (litN b i))) (fun r => p (sumF r.1 js)) (rwD (sumL (litN b i))) (it_lit o hi (f := cVar 0) (g := cVar 3) (ρ := [some (D (bkD b)), some (D (nl js)), s, some (I (i : Int)), none, none]) (var rfl) (var rfl)) (by simp) (by omega) (fun r hr => ?_) (fun r hr _ => var rfl))
  · rw [List.length_map] at this
    exact this
  · have hlen := (lo.lot r hr).1
    have hs := b1_sum (lc_mi (v := 5) (e := (cBin oIx (cBin oIx (cVar 4) (cC (.int (0)))) (cVar 5))) (ρ := (wipeE [some (D (bkD b)), some (D (nl js)), s, some (I (i : Int)), none, none] [4]).set 4 (some (.dat (rwD (sumL (litN b i)) r)))) js (fun i : Nat => .int (i : Int)) (at_ r.1) (it_L (f := cVar 1) (var rfl)) (by simp [wipeE]) (by omega) fun i hi => ixT (ixT (var rfl) (const (.int 0) _) atI_0) (var rfl) (ix_row (show i < r.1.length by have := h i hi; omega)))
    exact tst (bin hs (const (.int cst) _) (hop _))
theorem cnt_loop (o : BkOk b) (h : ∀ j ∈ js, j < b.n) (hl : js.length ≤ 100) {op : Op2} {cst : Int} {p : Int → Bool} (hop : ∀ z : Int, op (I z) (I cst) = some (.bool (p z))) : ∃ o', sFor (iSeq (cVar 1)) (tName 2 3) (sSet 2 2 (cBin oAdd (cVar 2) (cB bLen (aCons (cLc [4] (iSeq (cBin oIx (cBin oIx (cVar 0) (cC (.int (2)))) (cVar 3))) (tName 0 4) (cTst (cBin op (cB bSum (aCons (cLc [5] (iSeq (cVar 1)) (tName 0 5) cYes (cBin oIx (cBin oIx (cVar 4) (cC (.int (0)))) (cVar 5))) aNil)) (cC (.int cst)))) (cVar 4)) aNil)))) [some (D (bkD b)), some (D (nl js)), some (I 0), none, none, none] = some (.ok .nx [some (D (bkD b)), some (D (nl js)), some (I (cntF b js p : Int)), o', none, none]) := by
  obtain ⟨_, o', hf⟩ := forL_inv (t := tName 2 3) (body := (sSet 2 2 (cBin oAdd (cVar 2) (cB bLen (aCons (cLc [4] (iSeq (cBin oIx (cBin oIx (cVar 0) (cC (.int (2)))) (cVar 3))) (tName 0 4) (cTst (cBin op (cB bSum (aCons (cLc [5] (iSeq (cVar 1)) (tName 0 5) cYes (cBin oIx (cBin oIx (cVar 4) (cC (.int (0)))) (cVar 5))) aNil)) (cC (.int cst)))) (cVar 4)) aNil))))) (fun i : Nat => .int (i : Int)) (fun (s : Nat) (o : Option Val) => [some (D (bkD b)), some (D (nl js)), some (I (s : Int)), o, none, none]) (fun s k => s + ((litN b k).filter fun r => p (sumF r.1 js)).length) (fun _ => True) js (fun i hi s o' _ => by
    refine ⟨trivial, [some (D (bkD b)), some (D (nl js)), some (I (s : Int)), some (I (i : Int)), none, none], rfl, some (I (i : Int)), ?_⟩
    have hc := cnt_go (s := some (I (s : Int))) o h hl (h i hi) hop
    exact set_d (bin (var (i := 2) (d := .int (s : Int)) rfl) hc (e_addI _ _)) (by omega)) 0 none trivial
  refine ⟨o', ?_⟩
  unfold sFor
  rw [it_L (var rfl), bnd_ok]
  exact hf
theorem t_turns (k : Nat) (o : BkOk b) (h : ∀ j ∈ js, j < b.n) (hl : js.length ≤ 100) : tab (k + 1) "_law_turns_back" [D (bkD b), D (nl js)] = some (.ok (I (cntF b js (fun z => decide (0 < z)) : Int)) [D (bkD b), D (nl js)]) := by
  rw [tab__law_turns_back]
  obtain ⟨o', hf⟩ := cnt_loop o h hl (op := oGt) (cst := 0) (p := fun z => decide (0 < z)) fun z => e_gtI _ _
  have hbody : b__law_turns_back (tab k) [some (D (bkD b)), some (D (nl js)), none, none, none, none] = some (.ok (.rt (I (cntF b js (fun z => decide (0 < z)) : Int))) [some (D (bkD b)), some (D (nl js)), some (I (cntF b js (fun z => decide (0 < z)) : Int)), o', none, none]) := by
    unfold b__law_turns_back
    rw [seq_nx (set_d (const (.int 0) _) (by omega))]
    show bSeq _ _ [some (D (bkD b)), some (D (nl js)), some (I 0), none, none, none] = _
    rw [seq_nx hf, ret_d (var rfl)]
  exact run_d rfl hbody (by simp) rfl
theorem t_odd (k : Nat) (o : BkOk b) (h : ∀ j ∈ js, j < b.n) (hl : js.length ≤ 100) : tab (k + 1) "_law_odd" [D (bkD b), D (nl js)] = some (.ok (I (cntF b js (fun z => z != 1) : Int)) [D (bkD b), D (nl js)]) := by
  rw [tab__law_odd]
  obtain ⟨o', hf⟩ := cnt_loop o h hl (op := oNee) (cst := 1) (p := fun z => z != 1) fun z => e_neI _ _
  have hbody : b__law_odd (tab k) [some (D (bkD b)), some (D (nl js)), none, none, none, none] = some (.ok (.rt (I (cntF b js (fun z => z != 1) : Int))) [some (D (bkD b)), some (D (nl js)), some (I (cntF b js (fun z => z != 1) : Int)), o', none, none]) := by
    unfold b__law_odd
    rw [seq_nx (set_d (const (.int 0) _) (by omega))]
    show bSeq _ _ [some (D (bkD b)), some (D (nl js)), some (I 0), none, none, none] = _
    rw [seq_nx hf, ret_d (var rfl)]
  exact run_d rfl hbody (by simp) rfl
end
end PP.K03

end
section
set_option Elab.async false
set_option linter.all false
set_option maxRecDepth 100000
set_option maxHeartbeats 1000000
/-! K03k: what can be reached. -/
namespace PP.K03
open PySem PySem.Spec PyProof.Rows L2 PP

theorem whL_no {c : EvB} {body : Ex} {f : Nat} {ρ : PP.Env} (h : c ρ = some (.ok false ρ)) : whL c body (f + 1) ρ = some (.ok .nx ρ) := by
  unfold whL
  simp [h]
theorem whL_yes {c : EvB} {body : Ex} {f : Nat} {ρ ρ1 : PP.Env} (h : c ρ = some (.ok true ρ)) (h2 : body ρ = some (.ok .nx ρ1)) : whL c body (f + 1) ρ = whL c body f ρ1 := by
  conv => lhs; unfold whL
  simp [h, h2]
def rchO (c : Nat → List Nat) : Nat → List Nat → Nat → Option (List Nat)
  | 0, found, i => if i < found.length then none else some found
  | m + 1, found, i => if i < found.length then rchO c m (found ++ (c (found.getD i 0)).filter fun j => !found.contains j) (i + 1) else some found
theorem sAug_I {np i : Nat} {f : Ev} {ρ : PP.Env} {x y : Int} (h : ρ[i]? = some (some (I x))) (h2 : f ρ = some (.ok (I y) ρ)) (hi : np ≤ i) : sAug np i f ρ = some (.ok .nx (ρ.set i (some (I (x + y))))) := by
  have hn : ¬ i < np := by omega
  simp [sAug, h, h2, finAug, stV, setV, setOk, hn, noBor]
theorem varM {ρ : PP.Env} {i : Nat} {ds : List PyData} (h : ρ[i]? = some (some (.ml ds))) : cVar i ρ = some (.ok (.bor i) ρ) := by simp [cVar, h]
theorem resM {ρ : PP.Env} {i : Nat} {ds : List PyData} (h : ρ[i]? = some (some (.ml ds))) : res ρ (.bor i) = some (.ml ds) := res_bor' h rfl
theorem lenM {ρ : PP.Env} {i : Nat} {ds : List PyData} (h : ρ[i]? = some (some (.ml ds))) : cB bLen (aCons (cVar i) aNil) ρ = some (.ok (I ds.length) ρ) := by
  simp [cB, aCons, aNil, varM h, resM h, argOk, finB]
theorem binMd {op : Op2} {fb : Ev} {ρ : PP.Env} {i : Nat} {ds : List PyData} {b d : PyData} (h : ρ[i]? = some (some (.ml ds))) (h2 : fb ρ = some (.ok (.dat b) ρ)) (ho : op (.ml ds) (.dat b) = some d) : cBin op (cVar i) fb ρ = some (.ok (.dat d) ρ) := by
  simp [cBin, varM h, h2, fin2, resM h, ho]
theorem bindM {op : Op2} {fa : Ev} {ρ : PP.Env} {i : Nat} {ds : List PyData} {a d : PyData} (h : ρ[i]? = some (some (.ml ds))) (h2 : fa ρ = some (.ok (.dat a) ρ)) (ho : op (.dat a) (.ml ds) = some d) : cBin op fa (cVar i) ρ = some (.ok (.dat d) ρ) := by
  simp [cBin, varM h, h2, fin2, resM h, ho]
theorem e_ninM (l : List Nat) (j : Nat) : oNotIn (I (j : Int)) (.ml (iz l)) = some (.bool (!l.contains j)) := by
  simp [oNotIn, orO, oInS, dOf, nl, dptA, depthAll_iz, any_iz]
theorem ext_go {ρ : PP.Env} {i : Nat} {ds es : List PyData} {f : Ev} (h : ρ[i]? = some (some (.ml ds))) (h2 : f ρ = some (.ok (D (.list es)) ρ)) (hl : ds.length + es.length ≤ 1000000) : sDrop (cExt i f) ρ = some (.ok .nx (ρ.set i (some (.ml (ds ++ es))))) := by
  simp [sDrop, cExt, isMl, h, h2, finExt, lOf, okLen, hl]
section
variable {b : Bk}
theorem reach_step (k : Nat) (o : BkOk b) (jd : Val) (found : List Nat) (i : Nat) (x : Option Val) (hf : ∀ j ∈ found, j < b.n) (hl : found.length ≤ 1000) (hi : i < found.length) :
    bSeq (sDrop (cExt 2 (cLc [4] (iSeq (cCall (tab (k + 1)) "children" (aCons (cVar 0) (aCons (cBin oIx (cVar 2) (cVar 3)) aNil)))) (tName 0 4) (cTst (cBin oNotIn (cVar 4) (cVar 2))) (cVar 4)))) (sAug 2 3 (cC (.int (1)))) [some (D (bkD b)), some jd, some (.ml (iz found)), some (I (i : Int)), x] = some (.ok .nx [some (D (bkD b)), some jd, some (.ml (iz (found ++ (chF b (found.getD i 0)).filter fun j => !found.contains j))), some (I ((i + 1 : Nat) : Int)), x]) := by
  have hmem : found.getD i 0 < b.n := by
    rw [List.getD_eq_getElem?_getD, List.getElem?_eq_getElem hi]
    exact hf _ (List.getElem_mem hi)
  have hat : L2.atI (iz found) (i : Int) = some (.int ((found.getD i 0 : Nat) : Int)) := by
    refine atI_nat ?_
    unfold iz
    rw [List.getElem?_map, List.getElem?_eq_getElem hi, List.getD_eq_getElem?_getD, List.getElem?_eq_getElem hi]
    rfl
  have h3 := o.n3
  have hcl : (chF b (found.getD i 0)).length ≤ b.n := by
    unfold chF
    refine Nat.le_trans (List.length_filter_le _ _) ?_
    rw [List.length_range]
    exact Nat.le_refl _
  have hx := binMd (op := oIx) (fb := cVar 3) (ρ := [some (D (bkD b)), some jd, some (.ml (iz found)), some (I (i : Int)), x]) (i := 2) rfl (var rfl) ((e_ixM _ _).trans hat)
  have hc := call2 (fa := cVar 0) (ρ := [some (D (bkD b)), some jd, some (.ml (iz found)), some (I (i : Int)), x]) (var rfl) hx (t_children k b o _ hmem)
  have hlc := lc_f (v := 4) (c := cTst (cBin oNotIn (cVar 4) (cVar 2))) (e := cVar 4) (chF b (found.getD i 0)) (fun i : Nat => .int (i : Int)) (fun j => !found.contains j) (fun i : Nat => .int (i : Int)) (it_L hc) (by simp) (by omega) (fun j hj => tst (bindM (ds := iz found) rfl (var rfl) (e_ninM _ _))) (fun j hj _ => var rfl)
  have hlen : (iz found).length = found.length := List.length_map _
  rw [seq_nx (ext_go (ds := iz found) rfl hlc (by
    have := List.length_filter_le (fun j => !found.contains j) (chF b (found.getD i 0))
    rw [hlen, List.length_map]
    omega))]
  have e : iz found ++ ((chF b (found.getD i 0)).filter fun j => !found.contains j).map (fun i : Nat => PyData.int (i : Int)) = iz (found ++ (chF b (found.getD i 0)).filter fun j => !found.contains j) := by
    unfold iz
    rw [List.map_append]
  rw [e]
  exact sAug_I (x := (i : Int)) rfl (const (.int 1) _) (by omega)
theorem reach_loop (k : Nat) (o : BkOk b) (jd : Val) : ∀ (m : Nat) (found : List Nat) (i : Nat) (res : List Nat) (x : Option Val) (F : Nat), rchO (chF b) m found i = some res → (∀ j ∈ found, j < b.n) → found.length + 3 * m ≤ 1000 → m < F →
    (∃ i' : Nat, whL (cTst (cBin oLt (cVar 3) (cB bLen (aCons (cVar 2) aNil)))) (bSeq (sDrop (cExt 2 (cLc [4] (iSeq (cCall (tab (k + 1)) "children" (aCons (cVar 0) (aCons (cBin oIx (cVar 2) (cVar 3)) aNil)))) (tName 0 4) (cTst (cBin oNotIn (cVar 4) (cVar 2))) (cVar 4)))) (sAug 2 3 (cC (.int (1))))) F [some (D (bkD b)), some jd, some (.ml (iz found)), some (I (i : Int)), x] = some (.ok .nx [some (D (bkD b)), some jd, some (.ml (iz res)), some (I (i' : Int)), x])) ∧ (∀ j ∈ res, j < b.n) ∧ res.length ≤ 1000 := by
  have hcond : ∀ (found : List Nat) (i : Nat) (x : Option Val), cTst (cBin oLt (cVar 3) (cB bLen (aCons (cVar 2) aNil))) [some (D (bkD b)), some jd, some (.ml (iz found)), some (I (i : Int)), x] = some (.ok (decide (i < found.length)) [some (D (bkD b)), some jd, some (.ml (iz found)), some (I (i : Int)), x]) := fun found i x => by
    have := tst (bin (var (i := 3) (ρ := [some (D (bkD b)), some jd, some (.ml (iz found)), some (I (i : Int)), x]) rfl) (lenM (i := 2) (ds := iz found) rfl) (e_ltI (i : Int) _))
    rw [this]
    have hlen : (iz found).length = found.length := List.length_map _
    rw [hlen]
    simp
  intro m
  induction m with
  | zero =>
    intro found i res x F h hf hl hF
    obtain ⟨F, rfl⟩ : ∃ F', F = F' + 1 := ⟨F - 1, by omega⟩
    unfold rchO at h
    by_cases hi : i < found.length
    · rw [if_pos hi] at h; cases h
    · rw [if_neg hi] at h; cases h
      have hc := hcond found i x
      rw [decide_eq_false hi] at hc
      exact ⟨⟨i, whL_no hc⟩, hf, by omega⟩
  | succ m ih =>
    intro found i res x F h hf hl hF
    obtain ⟨F, rfl⟩ : ∃ F', F = F' + 1 := ⟨F - 1, by omega⟩
    unfold rchO at h
    have hc := hcond found i x
    by_cases hi : i < found.length
    · rw [if_pos hi] at h
      rw [decide_eq_true hi] at hc
      have hst := reach_step k o jd found i x hf (by omega) hi
      have h3 := o.n3
      have hcl : ((chF b (found.getD i 0)).filter fun j => !found.contains j).length ≤ b.n := by
        refine Nat.le_trans (List.length_filter_le _ _) (Nat.le_trans (List.length_filter_le _ _) ?_)
        rw [List.length_range]
        exact Nat.le_refl _
      obtain ⟨⟨i', hw⟩, h1, h2⟩ := ih _ (i + 1) res x F h (fun j hj => by
        rcases List.mem_append.mp hj with hj | hj
        · exact hf j hj
        · exact List.mem_range.mp (List.mem_filter.mp (List.mem_filter.mp hj).1).1) (by rw [List.length_append]; omega) (by omega)
      exact ⟨⟨i', (whL_yes hc hst).trans hw⟩, h1, h2⟩
    · rw [if_neg hi] at h; cases h
      rw [decide_eq_false hi] at hc
      exact ⟨⟨i, whL_no hc⟩, hf, by omega⟩
theorem sortM {ρ : PP.Env} {i : Nat} {l : List Nat} {n : Nat} (h : ρ[i]? = some (some (.ml (iz l)))) (nd : l.Nodup) (hn : ∀ x ∈ l, x < n) (hl : l.length ≤ 1000) : cB (bSorted false) (aCons (cVar i) aNil) ρ = some (.ok (D (nl (setN n l))) ρ) := by
  have h1 : bSorted false [.ml (iz l)] = some (D (nl (setN n l))) := by
    unfold bSorted orB
    have : bSort false [.ml (iz l)] = some (D (nl (setN n l))) := by
      unfold bSort
      simp only [lOf, canSort_iz (show l.length ≤ 1000000 by omega), if_true, sortD_iz, srt_set nd hn, asL, nl, Bool.false_eq_true, if_false]
    rw [this]
  simp [cB, aCons, aNil, varM h, resM h, argOk, finB, h1]
theorem t_reached (k : Nat) (o : BkOk b) (js : List Nat) (m : Nat) (res : List Nat) (hjs : ∀ j ∈ js, j < b.n) (hl : js.length ≤ 1000) (hm : m ≤ 10) (hr : rchO (chF b) m (setN b.n js) 0 = some res) (nd : res.Nodup) : tab (k + 2) "reached" [D (bkD b), D (nl js)] = some (.ok (D (nl (setN b.n res))) [D (bkD b), D (nl js)]) := by
  rw [tab_reached]
  have h3 := o.n3
  have hs : (setN b.n js).length ≤ b.n := by
    unfold setN
    refine Nat.le_trans (List.length_filter_le _ _) ?_
    rw [List.length_range]
    exact Nat.le_refl _
  obtain ⟨⟨i', hw⟩, hlt, hlen⟩ := reach_loop k o (D (nl js)) m (setN b.n js) 0 res none 1000000 hr (fun j hj => (setN_mem.mp hj).1) (by omega) (by omega)
  have hbody : b_reached (tab (k + 1)) [some (D (bkD b)), some (D (nl js)), none, none, none] = some (.ok (.rt (D (nl (setN b.n res)))) [some (D (bkD b)), some (D (nl js)), some (.ml (iz res)), some (I (i' : Int)), none]) := by
    unfold b_reached
    have h1 := ss_iz (own := true) (f := cVar 1) (ρ := [some (D (bkD b)), some (D (nl js)), none, none, none]) (l := js) (n := b.n) (var rfl) (by omega) hjs
    have hp : sPar 2 2 3 (cSS true (cVar 1)) (cC (.int 0)) [some (D (bkD b)), some (D (nl js)), none, none, none] = some (.ok .nx [some (D (bkD b)), some (D (nl js)), some (.ml (iz (setN b.n js))), some (I 0), none]) := by
      unfold sPar
      rw [h1, bnd_ok]
      rfl
    have hw' : sWhile 1000000 _ _ [some (D (bkD b)), some (D (nl js)), some (.ml (iz (setN b.n js))), some (I 0), none] = _ := hw
    rw [seq_nx hp, seq_nx hw', ret_d (sortM (l := res) rfl nd hlt hlen)]
  exact run_d rfl hbody (by simp) rfl
/-- a turn of _law_comes -/
def comeS (b : Bk) (s : List Nat) : List Nat := setN b.n (s ++ (List.range b.n).filter fun j => s.any fun k => Adj b k j)
theorem gt_len {α : Type} (l : List α) (p : α → Bool) : (decide ((0 : Int) < ((l.filter p).length : Int))) = l.any p := by
  rw [Bool.eq_iff_iff, decide_eq_true_eq, List.any_eq_true]
  constructor
  · intro h
    have : 0 < (l.filter p).length := by omega
    obtain ⟨x, hx⟩ := List.exists_mem_of_length_pos this
    exact ⟨x, (List.mem_filter.mp hx).1, (List.mem_filter.mp hx).2⟩
  · rintro ⟨x, hx, hp⟩
    have := List.length_pos_of_mem (List.mem_filter.mpr ⟨hx, hp⟩)
    omega
theorem e_catL {a c : List PyData} (h : a.length + c.length ≤ 1000000) : oAdd (D (.list a)) (D (.list c)) = some (.list (a ++ c)) := by
  have h1 : oAddI (D (.list a)) (D (.list c)) = none := rfl
  have h2 : oCatT (D (.list a)) (D (.list c)) = none := rfl
  simp [oAdd, orO, h1, h2, oCatL, okLen, h, lOf]
theorem comes_step (o : BkOk b) (jd t : Val) (s : List Nat) (hs : ∀ j ∈ s, j < b.n) (hl : s.length ≤ 3) : (sSet 2 2 (cSS false (cBin oAdd (cVar 2) (cLc [4] (iRng (aCons (cB bLen (aCons (cBin oIx (cVar 0) (cC (.int (1)))) aNil)) aNil)) (tName 0 4) (cTst (cBin oGt (cB bLen (aCons (cLc [5] (iSeq (cVar 2)) (tName 0 5) (cTst (cBin oGt (cB bLen (aCons (cLc [6, 7] (iSeq (cBin oIx (cBin oIx (cVar 0) (cC (.int (2)))) (cVar 5))) (tPair 0 6 7) (cTst (cBin oGt (cBin oIx (cVar 6) (cVar 4)) (cC (.int (0))))) (cC (.int (1)))) aNil)) (cC (.int (0))))) (cVar 5)) aNil)) (cC (.int (0))))) (cVar 4))))) [some (D (bkD b)), some jd, some (D (nl s)), some t, none, none, none, none] = some (.ok .nx [some (D (bkD b)), some jd, some (D (nl (comeS b s))), some t, none, none, none, none]) := by
  have h3 := o.n3
  have hlc := lc_f (v := 4) (c := (cTst (cBin oGt (cB bLen (aCons (cLc [5] (iSeq (cVar 2)) (tName 0 5) (cTst (cBin oGt (cB bLen (aCons (cLc [6, 7] (iSeq (cBin oIx (cBin oIx (cVar 0) (cC (.int (2)))) (cVar 5))) (tPair 0 6 7) (cTst (cBin oGt (cBin oIx (cVar 6) (cVar 4)) (cC (.int (0))))) (cC (.int (1)))) aNil)) (cC (.int (0))))) (cVar 5)) aNil)) (cC (.int (0)))))) (e := cVar 4) (ρ := [some (D (bkD b)), some jd, some (D (nl s)), some t, none, none, none, none]) (List.range b.n) (fun i : Nat => .int (i : Int)) (fun j => s.any fun k => Adj b k j) (fun i : Nat => .int (i : Int)) (it_many (f := cVar 0) o (var rfl)) (by simp) (by simp; omega) (fun j hj => ?_) (fun j hj _ => var rfl)
  · have hn : ((List.range b.n).filter fun j => s.any fun k => Adj b k j).length ≤ b.n := by
      refine Nat.le_trans (List.length_filter_le _ _) ?_
      rw [List.length_range]
      exact Nat.le_refl _
    have hcat := bin (op := oAdd) (fa := cVar 2) (var (d := nl s) rfl) hlc (e_catL (by rw [List.length_map]; simp only [iz, List.length_map]; omega))
    have e : iz s ++ ((List.range b.n).filter fun j => s.any fun k => Adj b k j).map (fun i : Nat => PyData.int (i : Int)) = iz (s ++ (List.range b.n).filter fun j => s.any fun k => Adj b k j) := by
      unfold iz
      rw [List.map_append]
    rw [e] at hcat
    have := ss_iz (own := false) (n := b.n) hcat (by rw [List.length_append]; omega) (fun x hx => by
      rcases List.mem_append.mp hx with hx | hx
      · exact hs x hx
      · exact List.mem_range.mp (List.mem_filter.mp hx).1)
    exact set_d this (by omega)
  · have hj' := List.mem_range.mp hj
    have hin := lc_f (v := 5) (c := (cTst (cBin oGt (cB bLen (aCons (cLc [6, 7] (iSeq (cBin oIx (cBin oIx (cVar 0) (cC (.int (2)))) (cVar 5))) (tPair 0 6 7) (cTst (cBin oGt (cBin oIx (cVar 6) (cVar 4)) (cC (.int (0))))) (cC (.int (1)))) aNil)) (cC (.int (0)))))) (e := cVar 5) (ρ := [some (D (bkD b)), some jd, some (D (nl s)), some t, some (I (j : Int)), none, none, none]) s (fun i : Nat => .int (i : Int)) (fun k => Adj b k j) (fun i : Nat => .int (i : Int)) (it_L (f := cVar 2) (var rfl)) (by simp) (by omega) (fun k hk => ?_) (fun k hk _ => var rfl)
    · have := tst (bin (op := oGt) (b1_len hin) (const (.int 0) _) (e_gtI _ _))
      rw [List.length_map, gt_len] at this
      exact this
    · have lo := litN_ok o (hs k hk)
      have hl2 := lo.len
      have hp := lc_pf (v := 6) (u := 7) (c := (cTst (cBin oGt (cBin oIx (cVar 6) (cVar 4)) (cC (.int (0)))))) (e := cC (.int 1)) (ρ := [some (D (bkD b)), some jd, some (D (nl s)), some t, some (I (j : Int)), some (I (k : Int)), none, none]) (litN b k) (fun r => rowD r.1) (fun r => pd (red (r.2 : Int) (sumL (litN b k)))) (fun r => decide (0 < at_ r.1 j)) (fun _ => .int 1) (it_lit (f := cVar 0) (g := cVar 5) o (hs k hk) (var rfl) (var rfl)) (by simp) (by simp) (by omega) (fun r hr => tst (bin (ixT (var rfl) (var rfl) (ix_row (by have := (lo.lot r hr).1; omega))) (const (.int 0) _) (e_gtI _ _))) (fun r hr _ => const _ _)
      have := tst (bin (op := oGt) (b1_len hp) (const (.int 0) _) (e_gtI _ _))
      rw [List.length_map, gt_len] at this
      exact this
end
end PP.K03

end
section
set_option Elab.async false
set_option linter.all false
set_option maxRecDepth 100000
set_option maxHeartbeats 1000000
/-! K03l: what comes of kinds, and that it is what is reached. -/
namespace PP.K03
open PySem PySem.Spec PyProof.Rows L2 PP

def comesF (b : Bk) (js : List Nat) : List Nat := (List.range b.n).foldl (fun s _ => comeS b s) (setN b.n js)
theorem setN_len {n : Nat} {l : List Nat} : (setN n l).length ≤ n := by
  unfold setN
  refine Nat.le_trans (List.length_filter_le _ _) ?_
  rw [List.length_range]
  exact Nat.le_refl _
section
variable {b : Bk}
theorem t_comes (k : Nat) (o : BkOk b) (js : List Nat) (hjs : ∀ j ∈ js, j < b.n) (hl : js.length ≤ 1000) : tab (k + 1) "_law_comes" [D (bkD b), D (nl js)] = some (.ok (D (nl (comesF b js))) [D (bkD b), D (nl js)]) := by
  rw [tab__law_comes]
  have h3 := o.n3
  have hs0 := ss_iz (own := false) (f := cVar 1) (ρ := [some (D (bkD b)), some (D (nl js)), none, none, none, none, none, none]) (l := js) (n := b.n) (var rfl) (by omega) hjs
  obtain ⟨_, o', hf⟩ := forL_inv (t := tName 2 3) (fun i : Nat => .int (i : Int)) (fun (s : List Nat) (o : Option Val) => [some (D (bkD b)), some (D (nl js)), some (D (nl s)), o, none, none, none, none]) (fun s _ => comeS b s) (fun s => (∀ j ∈ s, j < b.n) ∧ s.length ≤ 3) (List.range b.n) (fun i hi s o' hs => by
    refine ⟨⟨fun j hj => (setN_mem.mp hj).1, Nat.le_trans setN_len h3⟩, [some (D (bkD b)), some (D (nl js)), some (D (nl s)), some (I (i : Int)), none, none, none, none], rfl, some (I (i : Int)), comes_step o (D (nl js)) (I (i : Int)) s hs.1 hs.2⟩) (setN b.n js) none ⟨fun j hj => (setN_mem.mp hj).1, Nat.le_trans setN_len h3⟩
  have hbody : b__law_comes (tab k) [some (D (bkD b)), some (D (nl js)), none, none, none, none, none, none] = some (.ok (.rt (D (nl (comesF b js)))) [some (D (bkD b)), some (D (nl js)), some (D (nl (comesF b js))), o', none, none, none, none]) := by
    unfold b__law_comes
    rw [seq_nx (set_d hs0 (by omega))]
    show bSeq _ _ [some (D (bkD b)), some (D (nl js)), some (D (nl (setN b.n js))), none, none, none, none, none] = _
    have hfor : ∀ body, forL (tName 2 3) body ((List.range b.n).map fun i : Nat => .int (i : Int)) [some (D (bkD b)), some (D (nl js)), some (D (nl (setN b.n js))), none, none, none, none, none] = sFor (iRng (aCons (cB bLen (aCons (cBin oIx (cVar 0) (cC (.int (1)))) aNil)) aNil)) (tName 2 3) body [some (D (bkD b)), some (D (nl js)), some (D (nl (setN b.n js))), none, none, none, none, none] := fun body => by
      unfold sFor
      rw [it_many (f := cVar 0) o (var rfl), bnd_ok]
    rw [hfor] at hf
    rw [seq_nx hf, ret_d (var rfl)]
    rfl
  exact run_d rfl hbody (by simp) rfl
end
/-! ### all small graphs -/
def lists {α : Type} (xs : List α) : Nat → List (List α)
  | 0 => [[]]
  | n + 1 => xs.flatMap fun x => (lists xs n).map (x :: ·)
theorem lists_mem {α : Type} {xs : List α} : ∀ (l : List α), (∀ x ∈ l, x ∈ xs) → l ∈ lists xs l.length
  | [], _ => List.mem_singleton.mpr rfl
  | x :: l, h => List.mem_flatMap.mpr ⟨x, h x List.mem_cons_self, List.mem_map.mpr ⟨l, lists_mem l fun y hy => h y (List.mem_cons_of_mem _ hy), rfl⟩⟩
theorem bools_mem (l : List Bool) : l ∈ lists [true, false] l.length := lists_mem l fun x _ => by cases x <;> simp
def cM (m : List (List Bool)) (k j : Nat) : Bool := (m.getD k []).getD j false
def chC (n : Nat) (c : Nat → Nat → Bool) (k : Nat) : List Nat := (List.range n).filter (c k)
def comeC (n : Nat) (c : Nat → Nat → Bool) (s : List Nat) : List Nat := setN n (s ++ (List.range n).filter fun j => s.any fun k => c k j)
def chk (n : Nat) (m : List (List Bool)) (s : List Nat) : Bool := match rchO (chC n (cM m)) 4 s 0 with
  | some res => noDup res && (setN n res == (List.range n).foldl (fun s _ => comeC n (cM m) s) s)
  | none => false
theorem chk_all : ([1, 2, 3].all fun n => (lists (lists [true, false] n) n).all fun m => (lists [true, false] n).all fun k => chk n m ((List.range n).filter fun i => k.getD i false)) = true := by decide +kernel
end PP.K03

end
section
set_option Elab.async false
set_option linter.all false
set_option maxRecDepth 100000
set_option maxHeartbeats 1000000
/-! K03m: reached is what comes. -/
namespace PP.K03
open PySem PySem.Spec PyProof.Rows L2 PP

theorem rchO_congr {c c' : Nat → List Nat} {n : Nat} (h : ∀ k, k < n → c k = c' k) (h2 : ∀ k, k < n → ∀ j ∈ c k, j < n) : ∀ (m : Nat) (found : List Nat) (i : Nat), (∀ j ∈ found, j < n) → rchO c m found i = rchO c' m found i
  | 0, _, _, _ => rfl
  | m + 1, found, i, hf => by
    unfold rchO
    by_cases hi : i < found.length
    · rw [if_pos hi, if_pos hi]
      have hg : found.getD i 0 < n := by
        rw [List.getD_eq_getElem?_getD, List.getElem?_eq_getElem hi]
        exact hf _ (List.getElem_mem hi)
      rw [← h _ hg]
      exact rchO_congr h h2 m _ _ fun j hj => by
        rcases List.mem_append.mp hj with hj | hj
        · exact hf j hj
        · exact h2 _ hg j (List.mem_filter.mp hj).1
    · rw [if_neg hi, if_neg hi]
theorem getD_range {α : Type} {n i : Nat} {f : Nat → α} {d : α} (h : i < n) : ((List.range n).map f).getD i d = f i := by
  rw [List.getD_eq_getElem?_getD, List.getElem?_map, List.getElem?_range h]
  rfl
def matB (b : Bk) : List (List Bool) := (List.range b.n).map fun k => (List.range b.n).map (Adj b k)
theorem cM_mat {b : Bk} {k j : Nat} (hk : k < b.n) (hj : j < b.n) : cM (matB b) k j = Adj b k j := by
  unfold cM matB
  rw [getD_range hk, getD_range hj]
theorem any_congr {l : List Nat} {p q : Nat → Bool} (h : ∀ x ∈ l, p x = q x) : l.any p = l.any q := by
  induction l with
  | nil => rfl
  | cons x l ih => rw [List.any_cons, List.any_cons, h x List.mem_cons_self, ih fun y hy => h y (List.mem_cons_of_mem _ hy)]
section
variable {b : Bk}
theorem chF_mat {k : Nat} (hk : k < b.n) : chF b k = chC b.n (cM (matB b)) k := by
  unfold chF chC
  exact List.filter_congr fun j hj => (cM_mat hk (List.mem_range.mp hj)).symm
theorem comeS_mat {s : List Nat} (hs : ∀ j ∈ s, j < b.n) : comeS b s = comeC b.n (cM (matB b)) s := by
  unfold comeS comeC
  congr 2
  exact List.filter_congr fun j hj => any_congr fun k hk => (cM_mat (hs k hk) (List.mem_range.mp hj)).symm
theorem comes_mat : ∀ (l : List Nat) (s : List Nat), (∀ j ∈ s, j < b.n) → l.foldl (fun s _ => comeS b s) s = l.foldl (fun s _ => comeC b.n (cM (matB b)) s) s
  | [], _, _ => rfl
  | x :: l, s, hs => by
    rw [List.foldl_cons, List.foldl_cons, comeS_mat hs]
    exact comes_mat l _ fun j hj => (setN_mem.mp hj).1
theorem setN_mask {n : Nat} {js : List Nat} : setN n js = (List.range n).filter fun i => ((List.range n).map fun i => js.contains i).getD i false := by
  unfold setN
  exact List.filter_congr fun j hj => (getD_range (List.mem_range.mp hj)).symm
theorem reach_eq (o : BkOk b) (js : List Nat) : ∃ res, rchO (chF b) 4 (setN b.n js) 0 = some res ∧ res.Nodup ∧ setN b.n res = comesF b js := by
  have h := chk_all
  have n1 := o.n1
  have n3 := o.n3
  have hn : b.n ∈ [1, 2, 3] := by
    simp only [List.mem_cons, List.not_mem_nil, or_false]
    omega
  have h1 := List.all_eq_true.mp h b.n hn
  have hm : matB b ∈ lists (lists [true, false] b.n) b.n := by
    have := lists_mem (xs := lists [true, false] b.n) (matB b) fun r hr => by
      obtain ⟨k, _, rfl⟩ := List.mem_map.mp hr
      have := bools_mem ((List.range b.n).map (Adj b k))
      rwa [List.length_map, List.length_range] at this
    unfold matB at this ⊢
    rwa [List.length_map, List.length_range] at this
  have h2 := List.all_eq_true.mp h1 (matB b) hm
  have hk : ((List.range b.n).map fun i => js.contains i) ∈ lists [true, false] b.n := by
    have := bools_mem ((List.range b.n).map fun i => js.contains i)
    rwa [List.length_map, List.length_range] at this
  have h3 := List.all_eq_true.mp h2 _ hk
  rw [← setN_mask] at h3
  have hs : ∀ j ∈ setN b.n js, j < b.n := fun j hj => (setN_mem.mp hj).1
  rw [rchO_congr (n := b.n) (fun k hk => chF_mat hk) (fun k hk j hj => List.mem_range.mp (List.mem_filter.mp hj).1) 4 _ 0 hs]
  unfold comesF
  rw [comes_mat _ _ hs]
  unfold chk at h3
  split at h3
  · rename_i res hr
    rw [Bool.and_eq_true] at h3
    exact ⟨res, hr, noDup_iff h3.1, eq_of_beq h3.2⟩
  · cases h3
theorem t_reached2 (k : Nat) (o : BkOk b) (js : List Nat) (hjs : ∀ j ∈ js, j < b.n) (hl : js.length ≤ 1000) : tab (k + 2) "reached" [D (bkD b), D (nl js)] = some (.ok (D (nl (comesF b js))) [D (bkD b), D (nl js)]) := by
  obtain ⟨res, h1, h2, h3⟩ := reach_eq o js
  rw [← h3]
  exact t_reached k o js 4 res hjs hl (by omega) h1 h2
theorem comes_lt {js : List Nat} : (∀ j ∈ comesF b js, j < b.n) ∧ (comesF b js).length ≤ b.n := by
  unfold comesF
  have : ∀ (l : List Nat) (s : List Nat), ((∀ j ∈ s, j < b.n) ∧ s.length ≤ b.n) → (∀ j ∈ l.foldl (fun s _ => comeS b s) s, j < b.n) ∧ (l.foldl (fun s _ => comeS b s) s).length ≤ b.n := by
    intro l
    induction l with
    | nil => exact fun s hs => hs
    | cons x l ih => exact fun s hs => ih _ ⟨fun j hj => (setN_mem.mp hj).1, setN_len⟩
  exact this _ _ ⟨fun j hj => (setN_mem.mp hj).1, setN_len⟩
end
end PP.K03

end
section
set_option Elab.async false
set_option linter.all false
set_option maxRecDepth 100000
set_option maxHeartbeats 1000000
/-! K03n: the lots of a book. -/
namespace PP.K03
open PySem PySem.Spec PyProof.Rows L2 PP

theorem lcMg_map {α : Type} {k v : Nat} {dsA : List PyData} {c : EvB} {e : Ev} {ρ : PP.Env} (enc : α → PyData) (h : α → Option PyData) (hk : ρ[k]? = some (some (.ml dsA))) (hv : v < ρ.length) : ∀ (xs : List α), (∀ x ∈ xs, lcStep c e ((wipeE ρ [v]).set v (some (.dat (enc x)))) = some (h x, (wipeE ρ [v]).set v (some (.dat (enc x))))) → lcMg k dsA [v] (tName 0 v) c e (xs.map enc) ρ = some (xs.filterMap h, ρ)
  | [], _ => by
    rw [List.map_nil]
    unfold lcMg
    rw [if_pos hk]
    rfl
  | x :: xs, H => by
    have ht : tName 0 v (enc x) (wipeE ρ [v]) = some ((wipeE ρ [v]).set v (some (.dat (enc x)))) := by simp [tName, setV, setOk]
    rw [List.map_cons]
    unfold lcMg
    rw [if_pos hk, ht]
    simp only [H x List.mem_cons_self, rest_self hv]
    rw [lcMg_map enc h hk hv xs (fun y hy => H y (List.mem_cons_of_mem _ hy))]
    simp only [List.filterMap_cons]
    cases h x <;> rfl
theorem lcG_mb {α : Type} {k v : Nat} {e : Ev} {ρ : PP.Env} (xs : List α) (enc : α → PyData) (f : α → Bool) (hk : ρ[k]? = some (some (.ml (xs.map enc)))) (hv : v < ρ.length) (hl : xs.length ≤ 1000)
    (H : ∀ x ∈ xs, e ((wipeE ρ [v]).set v (some (.dat (enc x)))) = some (.ok (D (.bool (f x))) ((wipeE ρ [v]).set v (some (.dat (enc x)))))) : cLcG k [v] (tName 0 v) cYes e ρ = some (.ok (D (.list ((xs.map f).map .bool))) ρ) := by
  unfold cLcG
  rw [hk]
  simp only
  rw [lcMg_map enc (fun x => some (.bool (f x))) hk hv xs fun x hx => step_yes rfl (H x hx), filterMap_some]
  have h1 : (xs.map fun x => PyData.bool (f x)).length ≤ 1000000 := by rw [List.length_map]; omega
  have h2 : (xs.map fun x => PyData.bool (f x)) = (xs.map f).map .bool := by rw [List.map_map]; rfl
  rw [h2] at h1 ⊢
  simp only [finLc, okLen, h1, decide_true, if_true]
theorem lcG_f {α : Type} {k v : Nat} {c : EvB} {e : Ev} {ρ : PP.Env} (xs : List α) (enc f : α → PyData) (p : α → Bool) (hk : ρ[k]? = some (some (.ml (xs.map enc)))) (hv : v < ρ.length) (hl : xs.length ≤ 1000)
    (Hc : ∀ x ∈ xs, c ((wipeE ρ [v]).set v (some (.dat (enc x)))) = some (.ok (p x) ((wipeE ρ [v]).set v (some (.dat (enc x))))))
    (H : ∀ x ∈ xs, p x = true → e ((wipeE ρ [v]).set v (some (.dat (enc x)))) = some (.ok (D (f x)) ((wipeE ρ [v]).set v (some (.dat (enc x)))))) : cLcG k [v] (tName 0 v) c e ρ = some (.ok (D (.list ((xs.filter p).map f))) ρ) := by
  unfold cLcG
  rw [hk]
  simp only
  rw [lcMg_map enc (fun x => if p x = true then some (f x) else none) hk hv xs fun x hx => ?_, filterMap_if]
  · have h1 : ((xs.filter p).map f).length ≤ 1000000 := by
      have := List.length_filter_le p xs
      rw [List.length_map]
      omega
    simp only [finLc, okLen, h1, decide_true, if_true]
  · cases hp : p x with
    | true => exact step_yes (hp ▸ Hc x hx) (H x hx hp)
    | false => exact step_no (hp ▸ Hc x hx)
theorem app_go {ρ : PP.Env} {i : Nat} {ds : List PyData} {d : PyData} {f : Ev} (h : ρ[i]? = some (some (.ml ds))) (h2 : f ρ = some (.ok (D d) ρ)) (hl : ds.length + 1 ≤ 1000000) : sDrop (cApp i f) ρ = some (.ok .nx (ρ.set i (some (.ml (ds ++ [d]))))) := by
  have h9 : ds.length ≤ 999999 := by omega
  simp [sDrop, cApp, isMl, h, h2, finApp, okLen, h9]
theorem eq0_len {α : Type} (l : List α) (p : α → Bool) : (((l.filter p).length : Int) == 0) = !l.any p := by
  rw [← gt_len, Bool.eq_iff_iff]
  simp only [beq_iff_eq, Bool.not_eq_true', decide_eq_false_iff_not]
  omega
def lotS (R : Nat → List Nat) (found : List (List Nat)) (k : Nat) : List (List Nat) := if found.any (fun l => l.contains k) then found else found ++ [(R k).filter fun j => (R j).contains k]
def lotsF (R : Nat → List Nat) (n : Nat) : List (List Nat) := (List.range n).foldl (lotS R) []
def told (R : Nat → List Nat) (n : Nat) : PyData := .list ((List.range n).map fun k => nl (R k))
theorem told_at {R : Nat → List Nat} {n k : Nat} (h : k < n) : L2.atI ((List.range n).map fun k => nl (R k)) (k : Int) = some (nl (R k)) := by
  refine atI_nat ?_
  rw [List.getElem?_map, List.getElem?_range h]
  rfl
section
variable {b : Bk} {R : Nat → List Nat}
def env6 (b : Bk) (R : Nat → List Nat) (s : List (List Nat)) (o : Option Val) : PP.Env := [some (D (bkD b)), some (D (told R b.n)), some (.ml (s.map nl)), o, none, none]
theorem lot_app (hR : ∀ k, k < b.n → (∀ j ∈ R k, j < b.n) ∧ (R k).length ≤ b.n) (o : BkOk b) (s : List (List Nat)) (hs : s.length ≤ 100) (i : Nat) (hi : i < b.n) : sDrop (cApp 2 (cLc [5] (iSeq (cBin oIx (cVar 1) (cVar 3))) (tName 0 5) (cTst (cBin oIn (cVar 3) (cBin oIx (cVar 1) (cVar 5)))) (cVar 5))) (env6 b R s (some (I (i : Int)))) = some (.ok .nx (env6 b R (s ++ [(R i).filter fun j => (R j).contains i]) (some (I (i : Int))))) := by
  have h3 := o.n3
  have hx := ixL (fa := cVar 1) (fb := cVar 3) (ρ := env6 b R s (some (I (i : Int)))) (var rfl) (var rfl) (told_at (R := R) hi)
  have hlc := lc_f (v := 5) (c := cTst (cBin oIn (cVar 3) (cBin oIx (cVar 1) (cVar 5)))) (e := cVar 5) (R i) (fun i : Nat => .int (i : Int)) (fun j => (R j).contains i) (fun i : Nat => .int (i : Int)) (it_L hx) (by simp [env6]) (by have := (hR i hi).2; omega) (fun j hj => tst (bin (var rfl) (ixL (var rfl) (var rfl) (told_at (R := R) ((hR i hi).1 j hj))) (e_inL _ _))) (fun j hj _ => var rfl)
  have := app_go (i := 2) (ds := s.map nl) rfl hlc (by rw [List.length_map]; omega)
  rw [this]
  unfold env6
  rw [List.map_append]
  rfl
theorem lots_loop (hR : ∀ k, k < b.n → (∀ j ∈ R k, j < b.n) ∧ (R k).length ≤ b.n) (o : BkOk b) (tst_ : EvB) (ht : ∀ (s : List (List Nat)) (i : Nat), s.length ≤ 100 → tst_ (env6 b R s (some (I (i : Int)))) = some (.ok (!(s.any fun l => l.contains i)) (env6 b R s (some (I (i : Int)))))) :
    ∃ o', sFor (iRng (aCons (cB bLen (aCons (cBin oIx (cVar 0) (cC (.int (1)))) aNil)) aNil)) (tName 1 3) (sIf tst_ (sDrop (cApp 2 (cLc [5] (iSeq (cBin oIx (cVar 1) (cVar 3))) (tName 0 5) (cTst (cBin oIn (cVar 3) (cBin oIx (cVar 1) (cVar 5)))) (cVar 5)))) bNil) (env6 b R [] none) = some (.ok .nx (env6 b R (lotsF R b.n) o')) ∧ (lotsF R b.n).length ≤ 100 := by
  have h3 := o.n3
  have key : ∀ (xs : List Nat), (∀ x ∈ xs, x < b.n) → ∀ (s : List (List Nat)) (o' : Option Val), s.length + xs.length ≤ 100 → ∃ o'', forL (tName 1 3) (sIf tst_ (sDrop (cApp 2 (cLc [5] (iSeq (cBin oIx (cVar 1) (cVar 3))) (tName 0 5) (cTst (cBin oIn (cVar 3) (cBin oIx (cVar 1) (cVar 5)))) (cVar 5)))) bNil) (xs.map fun i : Nat => .int (i : Int)) (env6 b R s o') = some (.ok .nx (env6 b R (xs.foldl (lotS R) s) o'')) ∧ (xs.foldl (lotS R) s).length ≤ 100 := by
    intro xs
    induction xs with
    | nil => exact fun _ s o' hs => ⟨o', rfl, by simpa using hs⟩
    | cons x xs ih =>
      intro hx s o' hs
      rw [List.length_cons] at hs
      have hlen : (lotS R s x).length + xs.length ≤ 100 := by
        unfold lotS
        split
        · omega
        · rw [List.length_append, List.length_singleton]; omega
      obtain ⟨o'', h1, h2⟩ := ih (fun y hy => hx y (List.mem_cons_of_mem _ hy)) (lotS R s x) (some (I (x : Int))) hlen
      refine ⟨o'', ?_, h2⟩
      rw [List.map_cons]
      unfold forL
      have hstep : sIf tst_ (sDrop (cApp 2 (cLc [5] (iSeq (cBin oIx (cVar 1) (cVar 3))) (tName 0 5) (cTst (cBin oIn (cVar 3) (cBin oIx (cVar 1) (cVar 5)))) (cVar 5)))) bNil (env6 b R s (some (I (x : Int)))) = some (.ok .nx (env6 b R (lotS R s x) (some (I (x : Int))))) := by
        have ht' := ht s x (by omega)
        unfold lotS
        by_cases ha : (s.any fun l => l.contains x) = true
        · rw [ha] at ht'
          rw [if_no ht', if_pos ha]
          rfl
        · have ha' : (s.any fun l => l.contains x) = false := by simpa using ha
          rw [ha'] at ht'
          rw [if_yes ht', if_neg ha]
          exact lot_app hR o s (by omega) x (hx x List.mem_cons_self)
      have ht0 : tName 1 3 (.int (x : Int)) (env6 b R s o') = some (env6 b R s (some (I (x : Int)))) := rfl
      rw [ht0]
      simp only
      rw [hstep, bnd_ok]
      exact h1
  obtain ⟨o', h1, h2⟩ := key (List.range b.n) (fun x hx => List.mem_range.mp hx) [] none (by simp; omega)
  refine ⟨o', ?_, h2⟩
  unfold sFor
  rw [it_many (f := cVar 0) o (var rfl), bnd_ok]
  exact h1
theorem ret_ml {ρ : PP.Env} {i : Nat} {ds : List PyData} (h : ρ[i]? = some (some (.ml ds))) : sRetM (cVar i) ρ = some (.ok (.rt (D (.list ds))) (ρ.set i none)) := by
  simp [sRetM, varM h, retV, h]
def lotsD (b : Bk) : PyData := .list ((lotsF (fun k => comesF b [k]) b.n).map nl)
theorem t_lots_of (k : Nat) (o : BkOk b) : tab (k + 3) "lots_of" [D (bkD b)] = some (.ok (D (lotsD b)) [D (bkD b)]) := by
  rw [tab_lots_of]
  have h3 := o.n3
  have htold := lc_m (v := 3) (e := cCall (tab (k + 2)) "reached" (aCons (cVar 0) (aCons (cLst (aCons (cVar 3) aNil)) aNil))) (ρ := [some (D (bkD b)), none, none, none, none, none]) (List.range b.n) (fun i : Nat => .int (i : Int)) (fun k => nl (comesF b [k])) (it_many (f := cVar 0) o (var rfl)) (by simp) (by simp; omega) (fun i hi => call2 (var rfl) (show cLst (aCons (cVar 3) aNil) _ = some (.ok (D (nl [i])) _) from rfl) (t_reached2 k o [i] (by simpa using hi) (by simp)))
  obtain ⟨o', hl, hlen⟩ := lots_loop (R := fun k => comesF b [k]) (fun k _ => comes_lt) o (cNotB (cTst (cB (bAll fun bs => bs.any id) (aCons (cLcG 2 [4] (tName 0 4) cYes (cBin oIn (cVar 3) (cVar 4))) aNil)))) (fun s i hs => by
    have := notB1 (tst (b1_any (lcG_mb (k := 2) (v := 4) (e := cBin oIn (cVar 3) (cVar 4)) (ρ := env6 b (fun k => comesF b [k]) s (some (I (i : Int)))) s nl (fun l => l.contains i) rfl (by simp [env6]) (by omega) fun l hl => bin (var rfl) (var rfl) (e_inL _ _))))
    rw [List.any_map] at this
    exact this)
  have hbody : b_lots_of (tab (k + 2)) [some (D (bkD b)), none, none, none, none, none] = some (.ok (.rt (D (lotsD b))) ((env6 b (fun k => comesF b [k]) (lotsF (fun k => comesF b [k]) b.n) o').set 2 none)) := by
    unfold b_lots_of
    have hp : sPar 1 1 2 (cLc [3] (iRng (aCons (cB bLen (aCons (cBin oIx (cVar 0) (cC (.int (1)))) aNil)) aNil)) (tName 0 3) cYes (cCall (tab (k + 2)) "reached" (aCons (cVar 0) (aCons (cLst (aCons (cVar 3) aNil)) aNil)))) (cNl aNil) [some (D (bkD b)), none, none, none, none, none] = some (.ok .nx (env6 b (fun k => comesF b [k]) [] none)) := by
      unfold sPar
      rw [htold, bnd_ok]
      rfl
    rw [seq_nx hp, seq_nx hl, ret_ml (ds := (lotsF (fun k => comesF b [k]) b.n).map nl) rfl]
    rfl
  exact run_d rfl hbody (by simp [env6]) rfl
theorem t_law_lots (k : Nat) (o : BkOk b) : tab (k + 2) "_law_lots" [D (bkD b)] = some (.ok (D (lotsD b)) [D (bkD b)]) := by
  rw [tab__law_lots]
  have h3 := o.n3
  have htold := lc_m (v := 3) (e := cCall (tab (k + 1)) "_law_comes" (aCons (cVar 0) (aCons (cLst (aCons (cVar 3) aNil)) aNil))) (ρ := [some (D (bkD b)), none, none, none, none, none]) (List.range b.n) (fun i : Nat => .int (i : Int)) (fun k => nl (comesF b [k])) (it_many (f := cVar 0) o (var rfl)) (by simp) (by simp; omega) (fun i hi => call2 (var rfl) (show cLst (aCons (cVar 3) aNil) _ = some (.ok (D (nl [i])) _) from rfl) (t_comes k o [i] (by simpa using hi) (by simp)))
  obtain ⟨o', hl, hlen⟩ := lots_loop (R := fun k => comesF b [k]) (fun k _ => comes_lt) o (cTst (cBin oEqq (cB bLen (aCons (cLcG 2 [4] (tName 0 4) (cTst (cBin oIn (cVar 3) (cVar 4))) (cC (.int (1)))) aNil)) (cC (.int (0))))) (fun s i hs => by
    have := tst (bin (b1_len (lcG_f (k := 2) (v := 4) (c := cTst (cBin oIn (cVar 3) (cVar 4))) (e := cC (.int 1)) (ρ := env6 b (fun k => comesF b [k]) s (some (I (i : Int)))) s nl (fun _ => .int 1) (fun l => l.contains i) rfl (by simp [env6]) (by omega) (fun l hl => tst (bin (var rfl) (var rfl) (e_inL _ _))) fun l hl _ => const _ _)) (const (.int 0) _) (e_eqI _ _))
    rw [List.length_map, eq0_len] at this
    exact this)
  have hbody : b__law_lots (tab (k + 1)) [some (D (bkD b)), none, none, none, none, none] = some (.ok (.rt (D (lotsD b))) ((env6 b (fun k => comesF b [k]) (lotsF (fun k => comesF b [k]) b.n) o').set 2 none)) := by
    unfold b__law_lots
    have hp : sPar 1 1 2 (cLc [3] (iRng (aCons (cB bLen (aCons (cBin oIx (cVar 0) (cC (.int (1)))) aNil)) aNil)) (tName 0 3) cYes (cCall (tab (k + 1)) "_law_comes" (aCons (cVar 0) (aCons (cLst (aCons (cVar 3) aNil)) aNil)))) (cNl aNil) [some (D (bkD b)), none, none, none, none, none] = some (.ok .nx (env6 b (fun k => comesF b [k]) [] none)) := by
      unfold sPar
      rw [htold, bnd_ok]
      rfl
    rw [seq_nx hp, seq_nx hl, ret_ml (ds := (lotsF (fun k => comesF b [k]) b.n).map nl) rfl]
    rfl
  exact run_d rfl hbody (by simp [env6]) rfl
end
end PP.K03

end
section
set_option Elab.async false
set_option linter.all false
set_option maxRecDepth 100000
set_option maxHeartbeats 1000000
/-! K03o: who can end. -/
namespace PP.K03
open PySem PySem.Spec PyProof.Rows L2 PP

def kv (g : List (Nat × Nat)) : List (Key × PyData) := g.map fun p => (.inl (p.1 : Int), .int (p.2 : Int))
def keys (g : List (Nat × Nat)) : List Nat := g.map (·.1)
theorem get_kv (g : List (Nat × Nat)) (j : Nat) : (kvGet (kv g) (.inl (j : Int))).isSome = (keys g).contains j := by
  induction g with
  | nil => rfl
  | cons p g ih =>
    have e : kv (p :: g) = (.inl (p.1 : Int), .int (p.2 : Int)) :: kv g := rfl
    have e2 : keys (p :: g) = p.1 :: keys g := rfl
    rw [e, e2, List.contains_cons, ← ih]
    unfold kvGet
    by_cases h : p.1 = j
    · subst h; simp
    · have h1 : ¬ ((Sum.inl (p.1 : Int) : Key) = .inl (j : Int)) := fun z => h (by have := Sum.inl.inj z; omega)
      have h2 : (j == p.1) = false := by rw [beq_eq_false_iff_ne]; exact fun z => h z.symm
      simp [h1, h2]
theorem any_kv (g : List (Nat × Nat)) (j : Nat) : ((kv g).any fun q => decide (q.1 = (.inl (j : Int) : Key))) = (keys g).contains j := by
  induction g with
  | nil => rfl
  | cons p g ih =>
    have e : kv (p :: g) = (.inl (p.1 : Int), .int (p.2 : Int)) :: kv g := rfl
    have e2 : keys (p :: g) = p.1 :: keys g := rfl
    rw [e, e2, List.contains_cons, List.any_cons, ih]
    congr 1
    rw [Bool.eq_iff_iff, decide_eq_true_eq, beq_iff_eq]
    exact ⟨fun z => by have := Sum.inl.inj z; omega, fun z => by rw [z]⟩
theorem put_kv (g : List (Nat × Nat)) (j z : Nat) (h : (keys g).contains j = false) : kvPut (kv g) (.inl (j : Int)) (.int (z : Int)) = kv (g ++ [(j, z)]) := by
  unfold kvPut
  rw [any_kv, h, if_neg (by decide)]
  unfold kv
  rw [List.map_append]
  rfl
theorem e_ninK (g : List (Nat × Nat)) (j : Nat) : oNotIn (I (j : Int)) (.mk (kv g)) = some (.bool (!(keys g).contains j)) := by
  have h1 : oInS true (I (j : Int)) (.mk (kv g)) = none := rfl
  have h2 : oInC true (I (j : Int)) (.mk (kv g)) = none := rfl
  have h3 : oInD true (I (j : Int)) (.mk (kv g)) = some (.bool (true ^^ (kvGet (kv g) (.inl (j : Int))).isSome)) := rfl
  simp only [oNotIn, orO, h1, h2, h3, get_kv, Bool.true_xor]
theorem e_inK (g : List (Nat × Nat)) (j : Nat) : oIn (I (j : Int)) (.mk (kv g)) = some (.bool ((keys g).contains j)) := by
  have h1 : oInS false (I (j : Int)) (.mk (kv g)) = none := rfl
  have h2 : oInC false (I (j : Int)) (.mk (kv g)) = none := rfl
  have h3 : oInD false (I (j : Int)) (.mk (kv g)) = some (.bool (false ^^ (kvGet (kv g) (.inl (j : Int))).isSome)) := rfl
  simp only [oIn, orO, h1, h2, h3, get_kv, Bool.false_xor]
theorem run_g {np nN : Nat} {body : Ex} {as bs : List Val} {v : Val} {ρ : PP.Env} (h0 : as.length = np) (h : body (as.map some ++ List.replicate (nN - np) none) = some (.ok (.rt v) ρ)) (hb : backs as ρ = some bs) : runFn np nN body as = some (.ok v bs) := by
  unfold runFn
  rw [if_pos h0, h]
  simp [finFn, hb]
theorem varK {ρ : PP.Env} {i : Nat} {ds : List (Key × PyData)} (h : ρ[i]? = some (some (.mk ds))) : cVar i ρ = some (.ok (.bor i) ρ) := by simp [cVar, h]
theorem resK {ρ : PP.Env} {i : Nat} {ds : List (Key × PyData)} (h : ρ[i]? = some (some (.mk ds))) : res ρ (.bor i) = some (.mk ds) := res_bor' h rfl
theorem bindK {op : Op2} {fa : Ev} {ρ : PP.Env} {i : Nat} {ds : List (Key × PyData)} {a d : PyData} (h : ρ[i]? = some (some (.mk ds))) (h2 : fa ρ = some (.ok (.dat a) ρ)) (ho : op (.dat a) (.mk ds) = some d) : cBin op fa (cVar i) ρ = some (.ok (.dat d) ρ) := by
  simp [cBin, varK h, h2, fin2, resK h, ho]
theorem call3K {Φ : Phi} {f : String} {fa fb : Ev} {ρ : PP.Env} {i : Nat} {ds : List (Key × PyData)} {a c : PyData} {v : PyData} (h : ρ[i]? = some (some (.mk ds))) (h1 : fa ρ = some (.ok (.dat a) ρ)) (h2 : fb ρ = some (.ok (.dat c) ρ)) (hf : Φ f [.dat a, .dat c, .mk ds] = some (.ok (.dat v) [.dat a, .dat c, .mk ds])) : cCall Φ f (aCons fa (aCons fb (aCons (cVar i) aNil))) ρ = some (.ok (.dat v) ρ) := by
  have hc : callV Φ f [.dat a, .dat c, .bor i] ρ = some (.ok (.dat v) (wb ρ [.dat a, .dat c, .bor i] [.dat a, .dat c, .mk ds])) := callV_ok (by simp [resK h]) rfl hf rfl rfl
  have hw : wb ρ [.dat a, .dat c, .bor i] [.dat a, .dat c, .mk ds] = ρ := set_self' h
  rw [hw] at hc
  simp [cCall, aCons, aNil, h1, h2, varK h, hc, argOk]
def restF (n : Nat) (ks : List Nat) : List Nat := (List.range n).filter fun j => !ks.contains j
def EF (b : Bk) (k : Nat) (rs : List Nat) : Bool := (litN b k).any fun r => !hasF r.1 rs
section
variable {b : Bk}
theorem t_ends_by (k : Nat) (o : BkOk b) (kd : Nat) (hk : kd < b.n) (g : List (Nat × Nat)) : tab (k + 2) "ends_by" [D (bkD b), I kd, .mk (kv g)] = some (.ok (D (.bool (EF b kd (restF b.n (keys g))))) [D (bkD b), I kd, .mk (kv g)]) := by
  rw [tab_ends_by]
  have h3 := o.n3
  have lo := litN_ok o hk
  have hl := lo.len
  have hrl : (restF b.n (keys g)).length ≤ b.n := by
    unfold restF
    refine Nat.le_trans (List.length_filter_le _ _) ?_
    rw [List.length_range]
    exact Nat.le_refl _
  have hbody : b_ends_by (tab (k + 1)) [some (D (bkD b)), some (I kd), some (.mk (kv g)), none, none, none, none] = some (.ok (.rt (D (.bool (EF b kd (restF b.n (keys g)))))) [some (D (bkD b)), some (I kd), some (.mk (kv g)), some (D (nl (restF b.n (keys g)))), none, none, none]) := by
    unfold b_ends_by
    have hr := lc_f (v := 4) (c := cTst (cBin oNotIn (cVar 4) (cVar 2))) (e := cVar 4) (ρ := [some (D (bkD b)), some (I kd), some (.mk (kv g)), none, none, none, none]) (List.range b.n) (fun i : Nat => .int (i : Int)) (fun j => !(keys g).contains j) (fun i : Nat => .int (i : Int)) (it_many (f := cVar 0) o (var rfl)) (by simp) (by simp; omega) (fun j hj => tst (bindK (ds := kv g) rfl (var rfl) (e_ninK _ _))) (fun j hj _ => var rfl)
    rw [seq_nx (set_d hr (by omega))]
    show sRet _ [some (D (bkD b)), some (I kd), some (.mk (kv g)), some (D (nl (restF b.n (keys g)))), none, none, none] = _
    have ha := b1_any (lc_pmb (v := 5) (u := 6) (e := cNot (cCall (tab (k + 1)) "has" (aCons (cVar 5) (aCons (cVar 3) aNil)))) (ρ := [some (D (bkD b)), some (I kd), some (.mk (kv g)), some (D (nl (restF b.n (keys g)))), none, none, none]) (litN b kd) (fun r => rowD r.1) (fun r => pd (red (r.2 : Int) (sumL (litN b kd)))) (fun r => !hasF r.1 (restF b.n (keys g))) (it_lit (f := cVar 0) (g := cVar 1) o hk (var rfl) (var rfl)) (by simp) (by simp) (by omega) fun r hr => not1 (call2 (var rfl) (var rfl) (t_has k r.1 _ (fun j hj => by have := (lo.lot r hr).1; have := List.mem_range.mp (List.mem_filter.mp hj).1; omega) (by omega))))
    rw [List.any_map] at ha
    exact ret_d ha
  exact run_g rfl hbody (by simp)
end
end PP.K03

end
section
set_option Elab.async false
set_option linter.all false
set_option maxRecDepth 100000
set_option maxHeartbeats 1000000
/-! K03p: can_end, endless. -/
namespace PP.K03
open PySem PySem.Spec PyProof.Rows L2 PP

theorem put_go {ρ : PP.Env} {i : Nat} {fk fv : Ev} {g : List (Nat × Nat)} {j z : Nat} (h : ρ[i]? = some (some (.mk (kv g)))) (h1 : fv ρ = some (.ok (I (z : Int)) ρ)) (h2 : fk ρ = some (.ok (I (j : Int)) ρ)) (hl : g.length ≤ 1000) (hn : (keys g).contains j = false) : sPut i fk fv ρ = some (.ok .nx (ρ.set i (some (.mk (kv (g ++ [(j, z)])))))) := by
  have h9 : (kv g).length ≤ 999999 := by
    unfold kv
    rw [List.length_map]
    omega
  simp [sPut, h1, isSet, h, h2, finPut, kPut, okLen, h9, put_kv g j z hn]
def rnd (b : Bk) (g : List (Nat × Nat)) : List Nat := (List.range b.n).filter fun k => !(keys g).contains k && EF b k (restF b.n (keys g))
def ceF (b : Bk) : Nat → List (Nat × Nat) → Nat → Option (List (Nat × Nat))
  | 0, _, _ => none
  | m + 1, g, r => if rnd b g = [] then some g else ceF b m (g ++ (rnd b g).map fun k => (k, r + 1)) (r + 1)
theorem keys_app (g h : List (Nat × Nat)) : keys (g ++ h) = keys g ++ keys h := List.map_append
theorem keys_map (l : List Nat) (r : Nat) : keys (l.map fun k => (k, r)) = l := by
  unfold keys
  rw [List.map_map]
  exact List.map_id _
theorem put_all {np i v u : Nat} {E : List (Nat × Nat) → Option Val → PP.Env} {r : Nat} {fk fv : Ev} (hE : ∀ g o, (E g o)[i]? = some (some (.mk (kv g)))) (hv : ∀ g j, fv (E g (some (I ((j : Nat) : Int)))) = some (.ok (I (r : Int)) (E g (some (I (j : Int))))))
    (hk : ∀ g j, fk (E g (some (I ((j : Nat) : Int)))) = some (.ok (I (j : Int)) (E g (some (I (j : Int)))))) (hs : ∀ g g' o, (E g o).set i (some (.mk (kv g'))) = E g' o) (ht : ∀ g o (j : Nat), tName np v (.int (j : Int)) (E g o) = some (E g (some (I (j : Int))))) :
    ∀ (ks : List Nat) (g : List (Nat × Nat)) (o : Option Val), ks.Nodup → (∀ k ∈ ks, (keys g).contains k = false) → g.length + ks.length ≤ 1000 → ∃ o', forL (tName np v) (sPut i fk fv) (iz ks) (E g o) = some (.ok .nx (E (g ++ ks.map fun k => (k, r)) o'))
  | [], g, o, _, _, _ => ⟨o, by rw [List.map_nil, List.append_nil]; rfl⟩
  | k :: ks, g, o, nd, hg, hl => by
    obtain ⟨n1, n2⟩ := List.nodup_cons.mp nd
    rw [List.length_cons] at hl
    have hk0 := hg k List.mem_cons_self
    obtain ⟨o', ih⟩ := put_all (u := u) hE hv hk hs ht ks (g ++ [(k, r)]) (some (I (k : Int))) n2 (fun x hx => by
      have hne : ¬ x = k := fun e => n1 (e ▸ hx)
      have h1 := hg x (List.mem_cons_of_mem _ hx)
      have h2 : keys (g ++ [(k, r)]) = keys g ++ [k] := keys_app _ _
      rw [h2]
      rw [Bool.eq_false_iff] at h1 ⊢
      intro hc
      apply h1
      rw [List.contains_iff_mem] at hc ⊢
      rcases List.mem_append.mp hc with hc | hc
      · exact hc
      · exact absurd (List.mem_singleton.mp hc) hne) (by rw [List.length_append, List.length_singleton]; omega)
    refine ⟨o', ?_⟩
    have e : iz (k :: ks) = .int (k : Int) :: iz ks := rfl
    rw [e]
    unfold forL
    rw [ht g o k]
    simp only
    rw [put_go (hE g _) (hv g k) (hk g k) (by omega) hk0, bnd_ok, hs, ih, List.append_assoc]
    rfl
theorem eqv_nil (l : List Nat) : PyData.eqv (nl l) (.list []) = l.isEmpty := by
  cases l <;> rfl
theorem e_eqNil (l : List Nat) : oEqq (D (nl l)) (D (.list [])) = some (.bool l.isEmpty) := by
  rw [e_eqD (by
    have : PyData.depth (.list []) ≤ 100 := by decide +kernel
    omega), eqv_nil]
section
variable {b : Bk}
noncomputable def bodyCE (k : Nat) : Ex := (bSeq (sAug 1 2 (cC (.int (1)))) (bSeq (sSet 1 3 (cLc [4] (iRng (aCons (cB bLen (aCons (cBin oIx (cVar 0) (cC (.int (1)))) aNil)) aNil)) (tName 0 4) (cAndB (cTst (cBin oNotIn (cVar 4) (cVar 1))) (cTst (cCall (tab (k + 2)) "ends_by" (aCons (cVar 0) (aCons (cVar 4) (aCons (cVar 1) aNil)))))) (cVar 4))) (bSeq (sIf (cTst (cBin oEqq (cVar 3) (cLst aNil))) (sRetM (cVar 1)) bNil) (sFor (iSeq (cVar 3)) (tName 1 4) (sPut 1 (cVar 4) (cVar 2))))))
theorem ce_loop (k : Nat) (o : BkOk b) : ∀ (m : Nat) (g : List (Nat × Nat)) (r : Nat) (res : List (Nat × Nat)) (x y : Option Val) (F : Nat), ceF b m g r = some res → g.length + 3 * m ≤ 1000 → m ≤ F →
    ∃ ρ', whL (cTst (cC (.bool true))) (bodyCE k) F [some (D (bkD b)), some (.mk (kv g)), some (I (r : Int)), x, y] = some (.ok (.rt (.mk (kv res))) (some (D (bkD b)) :: ρ'))
  | 0, g, r, res, x, y, F, h, _, _ => by cases h
  | m + 1, g, r, res, x, y, F, h, hl, hF => by
    obtain ⟨F, rfl⟩ : ∃ F', F = F' + 1 := ⟨F - 1, by omega⟩
    have h3 := o.n3
    have hc : ∀ ρ : PP.Env, cTst (cC (.bool true)) ρ = some (.ok true ρ) := fun ρ => rfl
    have hrl : (rnd b g).length ≤ b.n := by
      unfold rnd
      refine Nat.le_trans (List.length_filter_le _ _) ?_
      rw [List.length_range]
      exact Nat.le_refl _
    have h1 : sAug 1 2 (cC (.int 1)) [some (D (bkD b)), some (.mk (kv g)), some (I (r : Int)), x, y] = some (.ok .nx [some (D (bkD b)), some (.mk (kv g)), some (I ((r + 1 : Nat) : Int)), x, y]) := sAug_I (x := (r : Int)) rfl (const (.int 1) _) (by omega)
    have hlc := lc_f (v := 4) (c := (cAndB (cTst (cBin oNotIn (cVar 4) (cVar 1))) (cTst (cCall (tab (k + 2)) "ends_by" (aCons (cVar 0) (aCons (cVar 4) (aCons (cVar 1) aNil))))))) (e := cVar 4) (ρ := [some (D (bkD b)), some (.mk (kv g)), some (I ((r + 1 : Nat) : Int)), x, y]) (List.range b.n) (fun i : Nat => .int (i : Int)) (fun k => !(keys g).contains k && EF b k (restF b.n (keys g))) (fun i : Nat => .int (i : Int)) (it_many (f := cVar 0) o (var rfl)) (by simp) (by simp; omega) (fun j hj => andB1 (tst (bindK (ds := kv g) rfl (var rfl) (e_ninK _ _))) fun _ => tst (call3K (ds := kv g) rfl (var rfl) (var rfl) (t_ends_by k o j (List.mem_range.mp hj) g))) (fun j hj _ => var rfl)
    have h2 : sSet 1 3 _ [some (D (bkD b)), some (.mk (kv g)), some (I ((r + 1 : Nat) : Int)), x, y] = some (.ok .nx [some (D (bkD b)), some (.mk (kv g)), some (I ((r + 1 : Nat) : Int)), some (D (nl (rnd b g))), y]) := set_d hlc (by omega)
    have ht := tst (bin (op := oEqq) (fa := cVar 3) (fb := cLst aNil) (ρ := [some (D (bkD b)), some (.mk (kv g)), some (I ((r + 1 : Nat) : Int)), some (D (nl (rnd b g))), y]) (var rfl) rfl (e_eqNil _))
    unfold ceF at h
    unfold whL
    rw [hc, bnd_ok, if_pos rfl]
    by_cases he : rnd b g = []
    · rw [if_pos he] at h
      cases h
      have hb : bodyCE k [some (D (bkD b)), some (.mk (kv g)), some (I (r : Int)), x, y] = some (.ok (.rt (.mk (kv g))) [some (D (bkD b)), none, some (I ((r + 1 : Nat) : Int)), some (D (nl (rnd b g))), y]) := by
        unfold bodyCE
        rw [seq_nx h1, seq_nx h2]
        rw [he] at ht ⊢
        refine seq_rt ((if_yes ht).trans ?_)
        rfl
      rw [hb, bnd_ok]
      exact ⟨_, rfl⟩
    · rw [if_neg he] at h
      have hem : (rnd b g).isEmpty = false := by
        rw [Bool.eq_false_iff]
        exact fun z => he (List.isEmpty_iff.mp z)
      rw [hem] at ht
      have nd : (rnd b g).Nodup := List.nodup_range.sublist List.filter_sublist
      obtain ⟨o', hf⟩ := put_all (np := 1) (i := 1) (v := 4) (u := 0) (E := fun g' o => [some (D (bkD b)), some (.mk (kv g')), some (I ((r + 1 : Nat) : Int)), some (D (nl (rnd b g))), o]) (r := r + 1) (fk := cVar 4) (fv := cVar 2) (fun g o => rfl) (fun g j => var rfl) (fun g j => var rfl) (fun g g' o => rfl) (fun g o j => rfl) (rnd b g) g y nd (fun k hk => by
        have := (List.mem_filter.mp hk).2
        rw [Bool.and_eq_true, Bool.not_eq_true'] at this
        exact this.1) (by omega)
      have hb : bodyCE k [some (D (bkD b)), some (.mk (kv g)), some (I (r : Int)), x, y] = some (.ok .nx [some (D (bkD b)), some (.mk (kv (g ++ (rnd b g).map fun k => (k, r + 1)))), some (I ((r + 1 : Nat) : Int)), some (D (nl (rnd b g))), o']) := by
        unfold bodyCE
        rw [seq_nx h1, seq_nx h2, seq_nx ((if_no ht).trans rfl)]
        unfold sFor
        rw [it_L (f := cVar 3) (ds := iz (rnd b g)) (var rfl), bnd_ok]
        exact hf
      rw [hb, bnd_ok]
      exact ce_loop k o m _ (r + 1) res _ o' F h (by rw [List.length_append, List.length_map]; omega) (by omega)
theorem t_can_end (k : Nat) (o : BkOk b) (m : Nat) (hm : m ≤ 10) (res : List (Nat × Nat)) (h : ceF b m [] 0 = some res) : tab (k + 3) "can_end" [D (bkD b)] = some (.ok (.mk (kv res)) [D (bkD b)]) := by
  rw [tab_can_end]
  obtain ⟨ρ', hw⟩ := ce_loop k o m [] 0 res none none 1000000 h (by simp; omega) (by omega)
  have hbody : b_can_end (tab (k + 2)) [some (D (bkD b)), none, none, none, none] = some (.ok (.rt (.mk (kv res))) (some (D (bkD b)) :: ρ')) := by
    unfold b_can_end
    have hp : sPar 1 1 2 cNk (cC (.int 0)) [some (D (bkD b)), none, none, none, none] = some (.ok .nx [some (D (bkD b)), some (.mk (kv [])), some (I ((0 : Nat) : Int)), none, none]) := rfl
    rw [seq_nx hp]
    exact hw
  exact run_g rfl hbody (by simp)
theorem t_endless (k : Nat) (o : BkOk b) (m : Nat) (hm : m ≤ 10) (res : List (Nat × Nat)) (h : ceF b m [] 0 = some res) : tab (k + 4) "endless" [D (bkD b)] = some (.ok (D (nl (restF b.n (keys res)))) [D (bkD b)]) := by
  rw [tab_endless]
  have h3 := o.n3
  have hce := t_can_end k o m hm res h
  have hcall : cCall (tab (k + 3)) "can_end" (aCons (cVar 0) aNil) [some (D (bkD b)), none, none] = some (.ok (.mk (kv res)) [some (D (bkD b)), none, none]) := by
    have hc : callV (tab (k + 3)) "can_end" [D (bkD b)] [some (D (bkD b)), none, none] = some (.ok (.mk (kv res)) [some (D (bkD b)), none, none]) := callV_ok (by simp) rfl hce rfl rfl
    unfold cCall
    rw [a1_ok (var rfl), bnd_ok]
    exact hc
  have hbody : b_endless (tab (k + 3)) [some (D (bkD b)), none, none] = some (.ok (.rt (D (nl (restF b.n (keys res))))) [some (D (bkD b)), some (.mk (kv res)), none]) := by
    unfold b_endless
    have hs : sSet 1 1 (cCall (tab (k + 3)) "can_end" (aCons (cVar 0) aNil)) [some (D (bkD b)), none, none] = some (.ok .nx [some (D (bkD b)), some (.mk (kv res)), none]) := by
      unfold sSet
      rw [hcall, bnd_ok]
      rfl
    rw [seq_nx hs]
    exact ret_d (lc_f (v := 2) (c := cTst (cBin oNotIn (cVar 2) (cVar 1))) (e := cVar 2) (ρ := [some (D (bkD b)), some (.mk (kv res)), none]) (List.range b.n) (fun i : Nat => .int (i : Int)) (fun j => !(keys res).contains j) (fun i : Nat => .int (i : Int)) (it_many (f := cVar 0) o (var rfl)) (by simp) (by simp; omega) (fun j hj => tst (bindK (ds := kv res) rfl (var rfl) (e_ninK _ _))) (fun j hj _ => var rfl))
  exact run_g rfl hbody (by simp)
end
end PP.K03

end
section
set_option Elab.async false
set_option linter.all false
set_option maxRecDepth 100000
set_option maxHeartbeats 1000000
/-! K03q: circling and plain lots, by counts. -/
namespace PP.K03
open PySem PySem.Spec PyProof.Rows L2 PP

section
variable {b : Bk} {js : List Nat}
theorem cnt_aux (b : Bk) (js : List Nat) (p : Int → Bool) : ∀ (l : List Nat) (s : Nat), (0 < l.foldl (fun s k => s + ((litN b k).filter fun r => p (sumF r.1 js)).length) s) ↔ (0 < s ∨ ∃ k ∈ l, ∃ r ∈ litN b k, p (sumF r.1 js) = true)
  | [], s => by simp
  | k :: l, s => by
    rw [List.foldl_cons, cnt_aux b js p l]
    have : 0 < ((litN b k).filter fun r => p (sumF r.1 js)).length ↔ ∃ r ∈ litN b k, p (sumF r.1 js) = true := by
      rw [List.length_pos_iff_exists_mem]
      simp only [List.mem_filter]
    constructor
    · rintro (h | ⟨x, hx, h⟩)
      · by_cases h0 : 0 < s
        · exact .inl h0
        · exact .inr ⟨k, List.mem_cons_self, this.mp (by omega)⟩
      · exact .inr ⟨x, List.mem_cons_of_mem _ hx, h⟩
    · rintro (h | ⟨x, hx, h⟩)
      · exact .inl (by omega)
      · rcases List.mem_cons.mp hx with rfl | hx
        · exact .inl (by have := this.mpr h; omega)
        · exact .inr ⟨x, hx, h⟩
theorem cnt_pos {p : Int → Bool} : 0 < cntF b js p ↔ ∃ k ∈ js, ∃ r ∈ litN b k, p (sumF r.1 js) = true := by
  unfold cntF
  rw [cnt_aux]
  simp
theorem sum_pos {r : List Int} (h : ∀ j, 0 ≤ at_ r j) : ∀ js : List Nat, 0 ≤ sumF r js ∧ (0 < sumF r js ↔ ∃ j ∈ js, 0 < at_ r j)
  | [] => by simp [sumF]
  | j :: js => by
    obtain ⟨h1, h2⟩ := sum_pos h js
    have hj := h j
    have e : sumF r (j :: js) = at_ r j + sumF r js := by simp [sumF]
    rw [e]
    refine ⟨by omega, ?_⟩
    constructor
    · intro hp
      by_cases h0 : 0 < at_ r j
      · exact ⟨j, List.mem_cons_self, h0⟩
      · obtain ⟨x, hx, hp⟩ := h2.mp (by omega)
        exact ⟨x, List.mem_cons_of_mem _ hx, hp⟩
    · rintro ⟨x, hx, hp⟩
      rcases List.mem_cons.mp hx with rfl | hx
      · omega
      · have := h2.mpr ⟨x, hx, hp⟩
        omega
theorem at_nonneg {r : List Int} (h : ∀ x ∈ r, 0 ≤ x) (j : Nat) : 0 ≤ at_ r j := by
  unfold at_
  rw [List.getD_eq_getElem?_getD]
  cases e : r[j]? with
  | none => simp
  | some x => exact h x (List.mem_of_getElem? e)
theorem row_nonneg (o : BkOk b) {k : Nat} (hk : k < b.n) {r : List Int × Nat} (hr : r ∈ litN b k) (j : Nat) : 0 ≤ at_ r.1 j := at_nonneg (fun x hx => (((litN_ok o hk).lot r hr).2.1 x hx).1) j
theorem circ_eq (o : BkOk b) (h : ∀ j ∈ js, j < b.n) : circF b js = decide ((0 : Int) < (cntF b js (fun z => decide (0 < z)) : Int)) := by
  rw [Bool.eq_iff_iff, decide_eq_true_eq]
  have e : (0 : Int) < (cntF b js (fun z => decide (0 < z)) : Int) ↔ 0 < cntF b js (fun z => decide (0 < z)) := by omega
  rw [e, cnt_pos]
  unfold circF
  simp only [List.any_eq_true, List.contains_iff_mem, decide_eq_true_eq]
  constructor
  · rintro ⟨j, hj, k, hk, hc⟩
    have := (List.mem_filter.mp hc).2
    unfold Adj at this
    obtain ⟨r, hr, hp⟩ := List.any_eq_true.mp this
    exact ⟨j, hj, r, hr, (sum_pos (row_nonneg o (h j hj) hr) js).2.mpr ⟨k, hk, of_decide_eq_true hp⟩⟩
  · rintro ⟨j, hj, r, hr, hp⟩
    obtain ⟨k, hk, hp⟩ := (sum_pos (row_nonneg o (h j hj) hr) js).2.mp hp
    exact ⟨j, hj, k, hk, List.mem_filter.mpr ⟨List.mem_range.mpr (h k hk), List.any_eq_true.mpr ⟨r, hr, decide_eq_true hp⟩⟩⟩
theorem plain_eq : plainF b js = ((cntF b js (fun z => z != 1) : Int) == 0) := by
  rw [Bool.eq_iff_iff, beq_iff_eq]
  have e : ((cntF b js (fun z => z != 1) : Int) = 0) ↔ ¬ 0 < cntF b js (fun z => z != 1) := by omega
  rw [e, cnt_pos]
  unfold plainF
  simp only [List.all_eq_true, beq_iff_eq, bne_iff_ne]
  constructor
  · rintro h ⟨k, hk, r, hr, hp⟩
    exact hp (h k hk r hr)
  · intro h k hk r hr
    exact Decidable.byContradiction fun hn => h ⟨k, hk, r, hr, hn⟩
end
end PP.K03

end
section
set_option Elab.async false
set_option linter.all false
set_option maxRecDepth 100000
set_option maxHeartbeats 1000000
/-! K03r: accepts_endless, _law_rows. -/
namespace PP.K03
open PySem PySem.Spec PyProof.Rows L2 PP

def acF (b : Bk) (js : List Nat) : Bool := js.all fun k => (litN b k).all fun r => hasF r.1 js
section
variable {b : Bk} {js : List Nat}
theorem t_accepts (k : Nat) (o : BkOk b) (kd : Nat) (h : ∀ j ∈ js, j < b.n) (hl : js.length ≤ 100) : tab (k + 2) "accepts_endless" [D (bkD b), I kd, D (.tuple (iz js))] = some (.ok (D (.bool (js.contains kd && acF b js))) [D (bkD b), I kd, D (.tuple (iz js))]) := by
  rw [tab_accepts_endless]
  have h3 := o.n3
  have h1 := o.n1
  have hw := lc_mb (v := 3) (e := cCall (tab (k + 1)) "is_whole" (aCons (cVar 3) (aCons (cC (.int (0))) (aCons (cBin oSub (cB bLen (aCons (cBin oIx (cVar 0) (cC (.int (1)))) aNil)) (cC (.int (1)))) aNil)))) (ρ := [some (D (bkD b)), some (I kd), some (D (.tuple (iz js))), none, none, none]) js (fun i : Nat => .int (i : Int)) (fun _ => true) (it_T (f := cVar 2) (var rfl)) (by simp) (by omega) (fun j hj => by
    have := call3 (var (i := 3) (d := .int (j : Int)) (ρ := (wipeE [some (D (bkD b)), some (I kd), some (D (.tuple (iz js))), none, none, none] [3]).set 3 (some (.dat (.int (j : Int))))) rfl) (const (.int 0) _) (bin (op := oSub) (bkN (f := cVar 0) o (var rfl)) (const (.int 1) _) (e_subI _ _)) (t_whole k (j : Int) 0 ((b.n : Int) - 1))
    have hj' := h j hj
    have a1 : (0 : Int) ≤ j := by omega
    have a2 : (j : Int) ≤ (b.n : Int) - 1 := by omega
    rw [decide_eq_true a1, decide_eq_true a2] at this
    exact this)
  have hall : ((js.map fun _ => true).all id) = true := by simp
  have hb1 := notB1 (tst (b1_all hw))
  rw [hall] at hb1
  have ht := orB1 (notB1 (tst (isT (f := cVar 2) (ρ := [some (D (bkD b)), some (I kd), some (D (.tuple (iz js))), none, none, none]) (var rfl) rfl k_tt))) (fun _ => orB1 hb1 (fun _ => tst (bin (fa := cVar 1) (fb := cVar 2) (var rfl) (var rfl) (e_ninT js kd))))
  have hout := b1_all (lc_mb (v := 3) (e := cB (bAll fun bs => bs.all id) (aCons (cLc [4, 5] (iSeq (cBin oIx (cBin oIx (cVar 0) (cC (.int (2)))) (cVar 3))) (tPair 0 4 5) cYes (cCall (tab (k + 1)) "has" (aCons (cVar 4) (aCons (cVar 2) aNil)))) aNil)) (ρ := [some (D (bkD b)), some (I kd), some (D (.tuple (iz js))), none, none, none]) js (fun i : Nat => .int (i : Int)) (fun k => (litN b k).all fun r => hasF r.1 js) (it_T (f := cVar 2) (var rfl)) (by simp) (by omega) (fun j hj => by
    have lo := litN_ok o (h j hj)
    have hl2 := lo.len
    have := b1_all (lc_pmb (v := 4) (u := 5) (e := cCall (tab (k + 1)) "has" (aCons (cVar 4) (aCons (cVar 2) aNil))) (ρ := (wipeE [some (D (bkD b)), some (I kd), some (D (.tuple (iz js))), none, none, none] [3]).set 3 (some (.dat (.int (j : Int))))) (litN b j) (fun r => rowD r.1) (fun r => pd (red (r.2 : Int) (sumL (litN b j)))) (fun r => hasF r.1 js) (it_lit (f := cVar 0) (g := cVar 3) o (h j hj) (var rfl) (var rfl)) (by simp [wipeE]) (by simp [wipeE]) (by omega) fun r hr => call2 (var rfl) (var rfl) (t_hasT k r.1 js (fun i hi => by have := (lo.lot r hr).1; have := h i hi; omega) (by omega)))
    rw [List.all_map] at this
    exact this))
  rw [List.all_map] at hout
  by_cases hc : js.contains kd = true
  · have hbody : b_accepts_endless (tab (k + 1)) [some (D (bkD b)), some (I kd), some (D (.tuple (iz js))), none, none, none] = some (.ok (.rt (D (.bool (js.contains kd && acF b js)))) [some (D (bkD b)), some (I kd), some (D (.tuple (iz js))), none, none, none]) := by
      unfold b_accepts_endless
      rw [hc] at ht ⊢
      rw [seq_nx ((if_no ht).trans rfl)]
      exact ret_d hout
    exact run_d rfl hbody (by simp) rfl
  · have hc' : js.contains kd = false := by rwa [Bool.eq_false_iff]
    have hbody : b_accepts_endless (tab (k + 1)) [some (D (bkD b)), some (I kd), some (D (.tuple (iz js))), none, none, none] = some (.ok (.rt (D (.bool (js.contains kd && acF b js)))) [some (D (bkD b)), some (I kd), some (D (.tuple (iz js))), none, none, none]) := by
      unfold b_accepts_endless
      rw [hc'] at ht ⊢
      exact seq_rt ((if_yes ht).trans (ret_d (const _ _)))
    exact run_d rfl hbody (by simp) rfl
end
end PP.K03

end
section
set_option Elab.async false
set_option linter.all false
set_option maxRecDepth 100000
set_option maxHeartbeats 1000000
/-! K03s: counts over tuples. -/
namespace PP.K03
open PySem PySem.Spec PyProof.Rows L2 PP

section
variable {b : Bk} {js : List Nat}
/-- the rows of lit[k] whose sum over the lot does so -/
theorem cnt_goT {s : Option Val} {op : Op2} {cst : Int} {p : Int → Bool} (o : BkOk b) (h : ∀ j ∈ js, j < b.n) (hl : js.length ≤ 100) {i : Nat} (hi : i < b.n) (hop : ∀ z : Int, op (I z) (I cst) = some (.bool (p z))) :
    cB bLen (aCons (cLc [4] (iSeq (cBin oIx (cBin oIx (cVar 0) (cC (.int (2)))) (cVar 3))) (tName 0 4) (cTst (cBin op (cB bSum (aCons (cLc [5] (iSeq (cVar 1)) (tName 0 5) cYes (cBin oIx (cBin oIx (cVar 4) (cC (.int (0)))) (cVar 5))) aNil)) (cC (.int cst)))) (cVar 4)) aNil) [some (D (bkD b)), some (D (.tuple (iz js))), s, some (I (i : Int)), none, none] = some (.ok (I (((litN b i).filter fun r => p (sumF r.1 js)).length : Int)) [some (D (bkD b)), some (D (.tuple (iz js))), s, some (I (i : Int)), none, none]) := by
  have lo := litN_ok o hi
  have hl2 := lo.len
  have := b1_len (lc_f (v := 4) (c := (cTst (cBin op (cB bSum (aCons (cLc [5] (iSeq (cVar 1)) (tName 0 5) cYes (cBin oIx (cBin oIx (cVar 4) (cC (.int (0)))) (cVar 5))) aNil)) (cC (.int cst))))) (e := cVar 4) (litN b i) (rwD (sumL (litN b i))) (fun r => p (sumF r.1 js)) (rwD (sumL (litN b i))) (it_lit o hi (f := cVar 0) (g := cVar 3) (ρ := [some (D (bkD b)), some (D (.tuple (iz js))), s, some (I (i : Int)), none, none]) (var rfl) (var rfl)) (by simp) (by omega) (fun r hr => ?_) (fun r hr _ => var rfl))
  · rw [List.length_map] at this
    exact this
  · have hlen := (lo.lot r hr).1
    have hs := b1_sum (lc_mi (v := 5) (e := (cBin oIx (cBin oIx (cVar 4) (cC (.int (0)))) (cVar 5))) (ρ := (wipeE [some (D (bkD b)), some (D (.tuple (iz js))), s, some (I (i : Int)), none, none] [4]).set 4 (some (.dat (rwD (sumL (litN b i)) r)))) js (fun i : Nat => .int (i : Int)) (at_ r.1) (it_T (f := cVar 1) (var rfl)) (by simp [wipeE]) (by omega) fun i hi => ixT (ixT (var rfl) (const (.int 0) _) atI_0) (var rfl) (ix_row (show i < r.1.length by have := h i hi; omega)))
    exact tst (bin hs (const (.int cst) _) (hop _))
theorem cnt_loopT (o : BkOk b) (h : ∀ j ∈ js, j < b.n) (hl : js.length ≤ 100) {op : Op2} {cst : Int} {p : Int → Bool} (hop : ∀ z : Int, op (I z) (I cst) = some (.bool (p z))) : ∃ o', sFor (iSeq (cVar 1)) (tName 2 3) (sSet 2 2 (cBin oAdd (cVar 2) (cB bLen (aCons (cLc [4] (iSeq (cBin oIx (cBin oIx (cVar 0) (cC (.int (2)))) (cVar 3))) (tName 0 4) (cTst (cBin op (cB bSum (aCons (cLc [5] (iSeq (cVar 1)) (tName 0 5) cYes (cBin oIx (cBin oIx (cVar 4) (cC (.int (0)))) (cVar 5))) aNil)) (cC (.int cst)))) (cVar 4)) aNil)))) [some (D (bkD b)), some (D (.tuple (iz js))), some (I 0), none, none, none] = some (.ok .nx [some (D (bkD b)), some (D (.tuple (iz js))), some (I (cntF b js p : Int)), o', none, none]) := by
  obtain ⟨_, o', hf⟩ := forL_inv (t := tName 2 3) (body := (sSet 2 2 (cBin oAdd (cVar 2) (cB bLen (aCons (cLc [4] (iSeq (cBin oIx (cBin oIx (cVar 0) (cC (.int (2)))) (cVar 3))) (tName 0 4) (cTst (cBin op (cB bSum (aCons (cLc [5] (iSeq (cVar 1)) (tName 0 5) cYes (cBin oIx (cBin oIx (cVar 4) (cC (.int (0)))) (cVar 5))) aNil)) (cC (.int cst)))) (cVar 4)) aNil))))) (fun i : Nat => .int (i : Int)) (fun (s : Nat) (o : Option Val) => [some (D (bkD b)), some (D (.tuple (iz js))), some (I (s : Int)), o, none, none]) (fun s k => s + ((litN b k).filter fun r => p (sumF r.1 js)).length) (fun _ => True) js (fun i hi s o' _ => by
    refine ⟨trivial, [some (D (bkD b)), some (D (.tuple (iz js))), some (I (s : Int)), some (I (i : Int)), none, none], rfl, some (I (i : Int)), ?_⟩
    have hc := cnt_goT (s := some (I (s : Int))) o h hl (h i hi) hop
    exact set_d (bin (var (i := 2) (d := .int (s : Int)) rfl) hc (e_addI _ _)) (by omega)) 0 none trivial
  refine ⟨o', ?_⟩
  unfold sFor
  rw [it_T (var rfl), bnd_ok]
  exact hf
theorem t_turnsT (k : Nat) (o : BkOk b) (h : ∀ j ∈ js, j < b.n) (hl : js.length ≤ 100) : tab (k + 1) "_law_turns_back" [D (bkD b), D (.tuple (iz js))] = some (.ok (I (cntF b js (fun z => decide (0 < z)) : Int)) [D (bkD b), D (.tuple (iz js))]) := by
  rw [tab__law_turns_back]
  obtain ⟨o', hf⟩ := cnt_loopT o h hl (op := oGt) (cst := 0) (p := fun z => decide (0 < z)) fun z => e_gtI _ _
  have hbody : b__law_turns_back (tab k) [some (D (bkD b)), some (D (.tuple (iz js))), none, none, none, none] = some (.ok (.rt (I (cntF b js (fun z => decide (0 < z)) : Int))) [some (D (bkD b)), some (D (.tuple (iz js))), some (I (cntF b js (fun z => decide (0 < z)) : Int)), o', none, none]) := by
    unfold b__law_turns_back
    rw [seq_nx (set_d (const (.int 0) _) (by omega))]
    show bSeq _ _ [some (D (bkD b)), some (D (.tuple (iz js))), some (I 0), none, none, none] = _
    rw [seq_nx hf, ret_d (var rfl)]
  exact run_d rfl hbody (by simp) rfl
def rowsF (b : Bk) (js : List Nat) : Int := (js.map fun k => ((litN b k).length : Int)).sum
theorem t_rows (k : Nat) (o : BkOk b) (h : ∀ j ∈ js, j < b.n) (hl : js.length ≤ 100) : tab (k + 1) "_law_rows" [D (bkD b), D (.tuple (iz js))] = some (.ok (I (rowsF b js)) [D (bkD b), D (.tuple (iz js))]) := by
  rw [tab__law_rows]
  have hbody : b__law_rows (tab k) [some (D (bkD b)), some (D (.tuple (iz js))), none] = some (.ok (.rt (I (rowsF b js))) [some (D (bkD b)), some (D (.tuple (iz js))), none]) := by
    unfold b__law_rows
    refine ret_d (b1_sum (lc_mi js (fun i : Nat => .int (i : Int)) (fun k => ((litN b k).length : Int)) (it_T (var rfl)) (by simp) (by omega) fun j hj => ?_))
    have := b1_lenT (bkL (f := cVar 0) (g := cVar 2) (ρ := (wipeE [some (D (bkD b)), some (D (.tuple (iz js))), none] [2]).set 2 (some (.dat (.int (j : Int))))) o (h j hj) (var rfl) (var rfl))
    rw [List.length_map] at this
    exact this
  exact run_d rfl hbody (by simp) rfl
end
end PP.K03

end
section
set_option Elab.async false
set_option linter.all false
set_option maxRecDepth 100000
set_option maxHeartbeats 1000000
/-! K03t: _law_fr, _law_add. -/
namespace PP.K03
open PySem PySem.Spec PyProof.Rows L2 PP

theorem fr_loop {A B : Option Val} : ∀ (ds : List PyData) (x y : Nat) (o : Option Val), y < ds.length → ∃ o', forL (tName 2 4) (bSeq (sIf (cTst (cBin oEqq (cVar 3) (cC (.int (0))))) sBrk bNil) (sPar 2 2 3 (cVar 3) (cBin oMod (cB bInt (aCons (cVar 2) aNil)) (cVar 3)))) ds [A, B, some (I x), some (I y), o] = some (.ok .nx [A, B, some (I (Nat.gcd x y)), some (I 0), o'])
  | [], x, y, o, h => absurd h (Nat.not_lt_zero _)
  | d :: ds, x, y, o, h => by
    unfold forL
    have ht0 : tName 2 4 d [A, B, some (I x), some (I y), o] = some [A, B, some (I x), some (I y), some (D d)] := rfl
    rw [ht0]
    simp only
    have ht := tst (bin (op := oEqq) (fa := cVar 3) (fb := cC (.int 0)) (ρ := [A, B, some (I x), some (I y), some (D d)]) (var rfl) (const _ _) (e_eqI (y : Int) 0))
    cases y with
    | zero =>
      refine ⟨some (D d), ?_⟩
      have hb : bSeq (sIf (cTst (cBin oEqq (cVar 3) (cC (.int (0))))) sBrk bNil) (sPar 2 2 3 (cVar 3) (cBin oMod (cB bInt (aCons (cVar 2) aNil)) (cVar 3))) [A, B, some (I x), some (I (0 : Nat)), some (D d)] = some (.ok .bk [A, B, some (I x), some (I 0), some (D d)]) := by
        unfold bSeq
        rw [if_yes ht]
        rfl
      rw [hb, bnd_ok, Nat.gcd_zero_right]
    | succ y =>
      have hm : x % (y + 1) < ds.length := by
        have h2 : x % (y + 1) < y + 1 := Nat.mod_lt x (Nat.succ_pos y)
        rw [List.length_cons] at h
        omega
      have e1 : Nat.gcd (y + 1) (x % (y + 1)) = Nat.gcd x (y + 1) := by rw [Nat.gcd_comm x, Nat.gcd_rec (y + 1) x, Nat.gcd_comm]
      have hz : (((y + 1 : Nat) : Int) == 0) = false := by
        rw [beq_eq_false_iff_ne]
        omega
      rw [hz] at ht
      obtain ⟨o', ih⟩ := fr_loop (A := A) (B := B) ds (y + 1) (x % (y + 1)) (some (D d)) hm
      rw [e1] at ih
      refine ⟨o', ?_⟩
      have hmod := bin (op := oMod) (fa := cB bInt (aCons (cVar 2) aNil)) (fb := cVar 3) (ρ := [A, B, some (I x), some (I ((y + 1 : Nat) : Int)), some (D d)]) (b1 (var rfl) (e_intI _)) (var rfl) (e_mod (i := (x : Int)) (j := ((y + 1 : Nat) : Int)) (by omega))
      have hp : sPar 2 2 3 (cVar 3) (cBin oMod (cB bInt (aCons (cVar 2) aNil)) (cVar 3)) [A, B, some (I x), some (I ((y + 1 : Nat) : Int)), some (D d)] = some (.ok .nx [A, B, some (I ((y + 1 : Nat) : Int)), some (I ((x % (y + 1) : Nat) : Int)), some (D d)]) := by
        unfold sPar
        rw [var (i := 3) (d := .int ((y + 1 : Nat) : Int)) rfl, bnd_ok, hmod, bnd_ok]
        rfl
      rw [seq_nx ((if_no ht).trans rfl), hp, bnd_ok]
      exact ih
theorem t_fr (k : Nat) (a b : Int) (h : 0 < b) (h2 : b < 3000) (ha : a.natAbs < 2 ^ 199) : tab (k + 1) "_law_fr" [I a, I b] = some (.ok (D (pd (red a b))) [I a, I b]) := by
  rw [tab__law_fr]
  obtain ⟨n, rfl⟩ : ∃ n : Nat, b = (n : Int) := ⟨b.toNat, by omega⟩
  obtain ⟨o', hf⟩ := fr_loop (A := some (I a)) (B := some (I (n : Int))) ((List.range 4000).map fun i : Nat => .int (i : Int)) a.natAbs n none (by rw [List.length_map, List.length_range]; omega)
  have hg := gcd_small (a := a) h
  have ht := tst (bin (op := oLt) (fa := cVar 1) (fb := cC (.int 0)) (ρ := [some (I a), some (I (n : Int)), none, none, none]) (var rfl) (const _ _) (e_ltI (n : Int) 0))
  rw [decide_eq_false (by omega)] at ht
  have hp : sPar 2 2 3 (cB bAbs (aCons (cVar 0) aNil)) (cVar 1) [some (I a), some (I (n : Int)), none, none, none] = some (.ok .nx [some (I a), some (I (n : Int)), some (I (a.natAbs : Int)), some (I (n : Int)), none]) := by
    unfold sPar
    rw [b1 (var rfl) (e_absI a), bnd_ok, var (i := 1) (d := .int (n : Int)) rfl, bnd_ok]
    rfl
  have hr := rng_of (n := 4000) (ρ := [some (I a), some (I (n : Int)), some (I (a.natAbs : Int)), some (I (n : Int)), none]) (by decide +kernel)
  have hit : iRng (aCons (cC (.int (4000))) aNil) [some (I a), some (I (n : Int)), some (I (a.natAbs : Int)), some (I (n : Int)), none] = some (.ok ((List.range 4000).map fun i : Nat => .int (i : Int)) [some (I a), some (I (n : Int)), some (I (a.natAbs : Int)), some (I (n : Int)), none]) := by
    unfold iRng
    rw [a1_ok (const _ _), bnd_ok]
    exact hr
  have hbody : b__law_fr (tab k) [some (I a), some (I (n : Int)), none, none, none] = some (.ok (.rt (D (pd (red a n)))) [some (I a), some (I (n : Int)), some (I (Int.gcd a n : Int)), some (I 0), o']) := by
    unfold b__law_fr
    rw [seq_nx ((if_no ht).trans rfl), seq_nx hp]
    have hfor : sFor (iRng (aCons (cC (.int (4000))) aNil)) (tName 2 4) (bSeq (sIf (cTst (cBin oEqq (cVar 3) (cC (.int (0))))) sBrk bNil) (sPar 2 2 3 (cVar 3) (cBin oMod (cB bInt (aCons (cVar 2) aNil)) (cVar 3)))) [some (I a), some (I (n : Int)), some (I (a.natAbs : Int)), some (I (n : Int)), none] = some (.ok .nx [some (I a), some (I (n : Int)), some (I (Int.gcd a n : Int)), some (I 0), o']) := by
      unfold sFor
      rw [hit, bnd_ok]
      exact hf
    rw [seq_nx hfor]
    have d1 := bin (op := oFdv) (fa := cVar 0) (fb := cVar 2) (ρ := [some (I a), some (I (n : Int)), some (I (Int.gcd a n : Int)), some (I 0), o']) (var rfl) (var rfl) (e_fdv hg.1 (by omega))
    have d2 := bin (op := oFdv) (fa := cVar 1) (fb := cVar 2) (ρ := [some (I a), some (I (n : Int)), some (I (Int.gcd a n : Int)), some (I 0), o']) (var rfl) (var rfl) (e_fdv hg.1 (by omega))
    refine ret_d ?_
    show cTup _ [some (I a), some (I (n : Int)), some (I (Int.gcd a n : Int)), some (I 0), o'] = _
    simp only [cTup, aCons, aNil, d1, d2, bnd_ok, argOk_dat, if_true]
    rfl
  exact run_d rfl hbody (by simp) rfl
theorem t_add (k : Nat) (a b c d : Int) (hb : 0 < b) (hb2 : b < 50) (hd : 0 < d) (hd2 : d < 50) (ha : a.natAbs < 2 ^ 100) (hc : c.natAbs < 2 ^ 100) : tab (k + 2) "_law_add" [D (pd (a, b)), D (pd (c, d))] = some (.ok (D (pd (red (a * d + c * b) (b * d)))) [D (pd (a, b)), D (pd (c, d))]) := by
  rw [tab__law_add]
  have n1 : (a * d).natAbs < 2 ^ 120 := by
    rw [Int.natAbs_mul]
    have h1 : d.natAbs < 2 ^ 20 := by omega
    exact Nat.lt_of_lt_of_le (Nat.mul_lt_mul'' ha h1) (by decide +kernel)
  have n2 : (c * b).natAbs < 2 ^ 120 := by
    rw [Int.natAbs_mul]
    have h1 : b.natAbs < 2 ^ 20 := by omega
    exact Nat.lt_of_lt_of_le (Nat.mul_lt_mul'' hc h1) (by decide +kernel)
  have p1 : 0 < b * d := Int.mul_pos hb hd
  have p2 : b * d < 3000 := by
    have : b * d ≤ 50 * 50 := Int.mul_le_mul (by omega) (by omega) (by omega) (by omega)
    omega
  have hf := t_fr k (a * d + c * b) (b * d) p1 p2 (by
    have := Int.natAbs_add_le (a * d) (c * b)
    omega)
  have v0 : cVar 0 [some (D (pd (a, b))), some (D (pd (c, d)))] = some (.ok (D (.tuple [.int a, .int b])) [some (D (pd (a, b))), some (D (pd (c, d)))]) := var rfl
  have v1 : cVar 1 [some (D (pd (a, b))), some (D (pd (c, d)))] = some (.ok (D (.tuple [.int c, .int d])) [some (D (pd (a, b))), some (D (pd (c, d)))]) := var rfl
  have hbody : b__law_add (tab (k + 1)) [some (D (pd (a, b))), some (D (pd (c, d)))] = some (.ok (.rt (D (pd (red (a * d + c * b) (b * d))))) [some (D (pd (a, b))), some (D (pd (c, d)))]) := by
    unfold b__law_add
    refine ret_d (call2 (bin (bin (ixT v0 (const (.int 0) _) atI_0) (ixT v1 (const (.int 1) _) atI_1) (e_mulS ?_ ?_)) (bin (ixT v1 (const (.int 0) _) atI_0) (ixT v0 (const (.int 1) _) atI_1) (e_mulS ?_ ?_)) (e_addI _ _)) (bin (ixT v0 (const (.int 1) _) atI_1) (ixT v1 (const (.int 1) _) atI_1) (e_mulS ?_ ?_)) hf) <;> omega
  exact run_d rfl hbody (by simp) rfl
end PP.K03

end
section
set_option Elab.async false
set_option linter.all false
set_option maxRecDepth 100000
set_option maxHeartbeats 1000000
/-! K03u: accepts_endless at odd values. -/
namespace PP.K03
open PySem PySem.Spec PyProof.Rows L2 PP

section
variable {b : Bk}
theorem t_acc_no (k : Nat) (kd : Nat) (v : PyData) (nme : String) (h1 : tyN (D v) = some nme) (h2 : kitB nme "tuple" = some false) : tab (k + 2) "accepts_endless" [D (bkD b), I kd, D v] = some (.ok (D (.bool false)) [D (bkD b), I kd, D v]) := by
  rw [tab_accepts_endless]
  have hbody : b_accepts_endless (tab (k + 1)) [some (D (bkD b)), some (I kd), some (D v), none, none, none] = some (.ok (.rt (D (.bool false))) [some (D (bkD b)), some (I kd), some (D v), none, none, none]) := by
    unfold b_accepts_endless
    refine seq_rt ((if_yes (orB1 (notB1 (tst (isT (f := cVar 2) (var rfl) h1 h2))) (fun h => by cases h) (b := true))).trans (ret_d (const _ _)))
  exact run_d rfl hbody (by simp) rfl
theorem t_acc_one (k : Nat) (o : BkOk b) (kd : Nat) (v : PyData) (hw : tab (k + 1) "is_whole" [D v, I 0, I ((b.n : Int) - 1)] = some (.ok (D (.bool false)) [D v, I 0, I ((b.n : Int) - 1)])) : tab (k + 2) "accepts_endless" [D (bkD b), I kd, D (.tuple [v])] = some (.ok (D (.bool false)) [D (bkD b), I kd, D (.tuple [v])]) := by
  rw [tab_accepts_endless]
  have hw := lc_mb (v := 3) (e := cCall (tab (k + 1)) "is_whole" (aCons (cVar 3) (aCons (cC (.int (0))) (aCons (cBin oSub (cB bLen (aCons (cBin oIx (cVar 0) (cC (.int (1)))) aNil)) (cC (.int (1)))) aNil)))) (ρ := [some (D (bkD b)), some (I kd), some (D (.tuple [v])), none, none, none]) [v] id (fun _ => false) (it_T (f := cVar 2) (var rfl)) (by simp) (by simp) (fun j hj => by
    obtain rfl := List.mem_singleton.mp hj
    exact call3 (var rfl) (const (.int 0) _) (bin (op := oSub) (bkN (f := cVar 0) o (var rfl)) (const (.int 1) _) (e_subI _ _)) hw)
  have hbody : b_accepts_endless (tab (k + 1)) [some (D (bkD b)), some (I kd), some (D (.tuple [v])), none, none, none] = some (.ok (.rt (D (.bool false))) [some (D (bkD b)), some (I kd), some (D (.tuple [v])), none, none, none]) := by
    unfold b_accepts_endless
    have ht := orB1 (notB1 (tst (isT (f := cVar 2) (ρ := [some (D (bkD b)), some (I kd), some (D (.tuple [v])), none, none, none]) (var rfl) rfl k_tt))) (fun _ => orB1 (notB1 (tst (b1_all hw))) (fun h => by cases h) (b := true) (g := cTst (cBin oNotIn (cVar 1) (cVar 2))))
    exact seq_rt ((if_yes ht).trans (ret_d (const _ _)))
  exact run_d rfl hbody (by simp) rfl
end
end PP.K03

end
section
set_option Elab.async false
set_option linter.all false
set_option maxRecDepth 100000
set_option maxHeartbeats 1000000
/-! K03v: the rounds in which kinds end, in plain words. -/
namespace PP.K03
open PySem PySem.Spec PyProof.Rows L2 PP

def lwF (b : Bk) : Nat → List (Nat × Nat) → Nat → List (Nat × Nat)
  | 0, g, _ => g
  | m + 1, g, r => lwF b m (g ++ (rnd b g).map fun k => (k, r + 1)) (r + 1)
structure GOk (b : Bk) (g : List (Nat × Nat)) : Prop where
  nd : (keys g).Nodup
  lt : ∀ k ∈ keys g, k < b.n
theorem rnd_mem {b : Bk} {g : List (Nat × Nat)} {k : Nat} : k ∈ rnd b g ↔ k < b.n ∧ k ∉ keys g ∧ EF b k (restF b.n (keys g)) = true := by
  unfold rnd
  rw [List.mem_filter, List.mem_range, Bool.and_eq_true, Bool.not_eq_true', Bool.eq_false_iff, Ne, List.contains_iff_mem]
theorem GOk.step {b : Bk} {g : List (Nat × Nat)} (h : GOk b g) (r : Nat) : GOk b (g ++ (rnd b g).map fun k => (k, r)) := by
  have e : keys (g ++ (rnd b g).map fun k => (k, r)) = keys g ++ rnd b g := by rw [keys_app, keys_map]
  refine ⟨?_, fun k hk => ?_⟩
  · rw [e]
    refine List.nodup_append.mpr ⟨h.nd, List.nodup_range.sublist List.filter_sublist, fun x hx y hy => ?_⟩
    rintro rfl
    exact (rnd_mem.mp hy).2.1 hx
  · rw [e] at hk
    rcases List.mem_append.mp hk with hk | hk
    · exact h.lt k hk
    · exact (rnd_mem.mp hk).1
theorem lw_fix {b : Bk} : ∀ (m : Nat) (g : List (Nat × Nat)) (r : Nat), rnd b g = [] → lwF b m g r = g
  | 0, _, _, _ => rfl
  | m + 1, g, r, h => by
    unfold lwF
    rw [h, List.map_nil, List.append_nil]
    exact lw_fix m g (r + 1) h
theorem GOk.full {b : Bk} {g : List (Nat × Nat)} (h : GOk b g) (hl : b.n ≤ (keys g).length) : rnd b g = [] := by
  have nd2 : (setN b.n (keys g)).Nodup := List.nodup_range.sublist List.filter_sublist
  have p : (keys g).Perm (setN b.n (keys g)) := (List.perm_ext_iff_of_nodup h.nd nd2).mpr fun x => by rw [setN_mem]; exact ⟨fun hx => ⟨h.lt x hx, hx⟩, fun hx => hx.2⟩
  have e : (setN b.n (keys g)).length = (List.range b.n).length := by
    have h1 := p.length_eq
    have h2 : (setN b.n (keys g)).length ≤ b.n := setN_len
    rw [List.length_range]
    omega
  have hall : ∀ x ∈ List.range b.n, (keys g).contains x = true := by
    unfold setN at e
    exact List.length_filter_eq_length_iff.mp e
  refine List.eq_nil_iff_forall_not_mem.mpr fun k hk => ?_
  obtain ⟨h1, h2, _⟩ := rnd_mem.mp hk
  exact h2 (List.contains_iff_mem.mp (hall k (List.mem_range.mpr h1)))
theorem ce_lw {b : Bk} : ∀ (m : Nat) (g : List (Nat × Nat)) (r : Nat), GOk b g → b.n ≤ (keys g).length + m → ceF b (m + 1) g r = some (lwF b m g r)
  | 0, g, r, h, hl => by
    unfold ceF
    rw [if_pos (h.full hl)]
    rfl
  | m + 1, g, r, h, hl => by
    unfold ceF
    by_cases he : rnd b g = []
    · rw [if_pos he, lw_fix _ _ _ he]
    · rw [if_neg he]
      have hpos : 0 < (rnd b g).length := List.length_pos_iff.mpr he
      unfold lwF
      refine ce_lw m _ (r + 1) (h.step _) ?_
      rw [keys_app, keys_map, List.length_append]
      omega
end PP.K03

end
section
set_option Elab.async false
set_option linter.all false
set_option maxRecDepth 100000
set_option maxHeartbeats 1000000
/-! K03w: sets that never end. -/
namespace PP.K03
open PySem PySem.Spec PyProof.Rows L2 PP

theorem hasF_mono {r : List Int} {js ks : List Nat} (h : ∀ j ∈ js, j ∈ ks) (hh : hasF r js = true) : hasF r ks = true := by
  obtain ⟨j, hj, hp⟩ := List.any_eq_true.mp hh
  exact List.any_eq_true.mpr ⟨j, h j hj, hp⟩
theorem restF_mem {n : Nat} {ks : List Nat} {j : Nat} : j ∈ restF n ks ↔ j < n ∧ j ∉ ks := by
  unfold restF
  rw [List.mem_filter, List.mem_range, Bool.not_eq_true', Bool.eq_false_iff, Ne, List.contains_iff_mem]
theorem ac_rnd {b : Bk} {g : List (Nat × Nat)} {js : List Nat} (h : acF b js = true) (hl : ∀ j ∈ js, j < b.n) (ha : ∀ j ∈ js, j ∉ keys g) : ∀ j ∈ js, j ∉ rnd b g := fun j hj hm => by
  have he := (rnd_mem.mp hm).2.2
  obtain ⟨r, hr, hn⟩ := List.any_eq_true.mp he
  have h1 := List.all_eq_true.mp (List.all_eq_true.mp h j hj) r hr
  have h2 := hasF_mono (ks := restF b.n (keys g)) (fun i hi => restF_mem.mpr ⟨hl i hi, ha i hi⟩) h1
  rw [h2] at hn
  cases hn
theorem ac_lw {b : Bk} {js : List Nat} (h : acF b js = true) (hl : ∀ j ∈ js, j < b.n) : ∀ (m : Nat) (g : List (Nat × Nat)) (r : Nat), (∀ j ∈ js, j ∉ keys g) → ∀ j ∈ js, j ∉ keys (lwF b m g r)
  | 0, _, _, ha => ha
  | m + 1, g, r, ha => by
    unfold lwF
    refine ac_lw h hl m _ _ fun j hj => ?_
    rw [keys_app, keys_map, List.mem_append]
    rintro (hk | hk)
    · exact ha j hj hk
    · exact ac_rnd h hl ha j hj hk
theorem fix_ac {b : Bk} {g : List (Nat × Nat)} (h : rnd b g = []) : acF b (restF b.n (keys g)) = true := by
  refine List.all_eq_true.mpr fun k hk => List.all_eq_true.mpr fun r hr => ?_
  obtain ⟨h1, h2⟩ := restF_mem.mp hk
  have hn : k ∉ rnd b g := by rw [h]; exact List.not_mem_nil
  have he : ¬ EF b k (restF b.n (keys g)) = true := fun he => hn (rnd_mem.mpr ⟨h1, h2, he⟩)
  cases e : hasF r.1 (restF b.n (keys g)) with
  | true => rfl
  | false => exact absurd (List.any_eq_true.mpr ⟨r, hr, by rw [e]; rfl⟩) he
end PP.K03

end
section
set_option Elab.async false
set_option linter.all false
set_option maxRecDepth 100000
set_option maxHeartbeats 1000000
/-! K03x: rows counted. -/
namespace PP.K03
open PySem PySem.Spec PyProof.Rows L2 PP

theorem rows_aux (b : Bk) (js : List Nat) (p : Int → Bool) : ∀ (l : List Nat) (s : Nat), l.foldl (fun s k => s + ((litN b k).filter fun r => p (sumF r.1 js)).length) s ≤ s + (l.map fun k => (litN b k).length).sum ∧ (l.foldl (fun s k => s + ((litN b k).filter fun r => p (sumF r.1 js)).length) s = s + (l.map fun k => (litN b k).length).sum ↔ ∀ k ∈ l, ∀ r ∈ litN b k, p (sumF r.1 js) = true)
  | [], s => by simp
  | k :: l, s => by
    obtain ⟨h1, h2⟩ := rows_aux b js p l (s + ((litN b k).filter fun r => p (sumF r.1 js)).length)
    have hle := List.length_filter_le (fun r : List Int × Nat => p (sumF r.1 js)) (litN b k)
    have heq : ((litN b k).filter fun r => p (sumF r.1 js)).length = (litN b k).length ↔ ∀ r ∈ litN b k, p (sumF r.1 js) = true := List.length_filter_eq_length_iff
    rw [List.foldl_cons, List.map_cons, List.sum_cons]
    refine ⟨by omega, ?_⟩
    constructor
    · intro h x hx
      rcases List.mem_cons.mp hx with rfl | hx
      · exact heq.mp (by omega)
      · exact h2.mp (by omega) x hx
    · intro h
      have e1 := heq.mpr (h k List.mem_cons_self)
      have e2 := h2.mpr fun x hx => h x (List.mem_cons_of_mem _ hx)
      omega
end PP.K03

end
section
set_option Elab.async false
set_option linter.all false
set_option maxRecDepth 100000
set_option maxHeartbeats 1000000
/-! K03y: the last round is a fixpoint; rows counted, for accepts. -/
namespace PP.K03
open PySem PySem.Spec PyProof.Rows L2 PP

theorem lw_end {b : Bk} : ∀ (m : Nat) (g : List (Nat × Nat)) (r : Nat), GOk b g → b.n ≤ (keys g).length + m → rnd b (lwF b m g r) = []
  | 0, g, r, h, hl => h.full hl
  | m + 1, g, r, h, hl => by
    by_cases he : rnd b g = []
    · rw [lw_fix _ _ _ he]
      exact he
    · have hpos : 0 < (rnd b g).length := List.length_pos_iff.mpr he
      unfold lwF
      refine lw_end m _ (r + 1) (h.step _) ?_
      rw [keys_app, keys_map, List.length_append]
      omega
theorem GOk.nil {b : Bk} : GOk b [] := ⟨List.nodup_nil, fun _ h => nomatch h⟩
theorem hasF_sum {r : List Int} (h : ∀ j, 0 ≤ at_ r j) (js : List Nat) : hasF r js = decide (0 < sumF r js) := by
  rw [Bool.eq_iff_iff, decide_eq_true_eq, (sum_pos h js).2]
  unfold hasF
  rw [List.any_eq_true]
  simp only [decide_eq_true_eq]
theorem sum_cast : ∀ l : List Nat, ((l.map fun x : Nat => (x : Int)).sum) = (l.sum : Int)
  | [] => rfl
  | x :: l => by
    rw [List.map_cons, List.sum_cons, List.sum_cons, sum_cast l]
    omega
theorem holds_eq {b : Bk} (o : BkOk b) {js : List Nat} (hl : ∀ j ∈ js, j < b.n) : (rowsF b js == (cntF b js (fun z => decide (0 < z)) : Int)) = acF b js := by
  obtain ⟨_, h2⟩ := rows_aux b js (fun z => decide (0 < z)) js 0
  have e : rowsF b js = (((js.map fun k => (litN b k).length).sum : Nat) : Int) := by
    rw [← sum_cast, List.map_map]
    rfl
  rw [Bool.eq_iff_iff, beq_iff_eq, e]
  have hc : cntF b js (fun z => decide (0 < z)) = js.foldl (fun s k => s + ((litN b k).filter fun r => decide (0 < sumF r.1 js)).length) 0 := rfl
  rw [hc]
  have h3 : ((((js.map fun k => (litN b k).length).sum : Nat) : Int) = ((js.foldl (fun s k => s + ((litN b k).filter fun r => decide (0 < sumF r.1 js)).length) 0 : Nat) : Int)) ↔ (js.foldl (fun s k => s + ((litN b k).filter fun r => decide (0 < sumF r.1 js)).length) 0 = 0 + (js.map fun k => (litN b k).length).sum) := by omega
  rw [h3, h2]
  unfold acF
  simp only [List.all_eq_true]
  constructor
  · intro h k hk r hr
    rw [hasF_sum (row_nonneg o (hl k hk) hr)]
    exact h k hk r hr
  · intro h k hk r hr
    have := h k hk r hr
    rwa [hasF_sum (row_nonneg o (hl k hk) hr)] at this
end PP.K03

end
section
set_option Elab.async false
set_option linter.all false
set_option maxRecDepth 100000
set_option maxHeartbeats 1000000
/-! K03za: dicts of rounds compared and listed; who ends at the fixpoint. -/
namespace PP.K03
open PySem PySem.Spec PyProof.Rows L2 PP

theorem get_mem : ∀ {g : List (Nat × Nat)}, (keys g).Nodup → ∀ p ∈ g, kvGet (kv g) (.inl (p.1 : Int)) = some (.int (p.2 : Int))
  | [], _, _, h => nomatch h
  | q :: g, nd, p, h => by
    have e : kv (q :: g) = (.inl (q.1 : Int), .int (q.2 : Int)) :: kv g := rfl
    have e2 : keys (q :: g) = q.1 :: keys g := rfl
    rw [e2] at nd
    obtain ⟨n1, n2⟩ := List.nodup_cons.mp nd
    rw [e]
    unfold kvGet
    rcases List.mem_cons.mp h with rfl | h
    · simp
    · have hne : ¬ q.1 = p.1 := fun z => n1 (z ▸ List.mem_map.mpr ⟨p, h, rfl⟩)
      have hk : ¬ ((Sum.inl (q.1 : Int) : Key) = .inl (p.1 : Int)) := fun z => hne (by have := Sum.inl.inj z; omega)
      rw [List.find?_cons_of_neg (by simpa using hk)]
      exact get_mem n2 p h
theorem same_kv {g : List (Nat × Nat)} (nd : (keys g).Nodup) : sameK (kv g) (kv g) = true := by
  unfold sameK
  rw [decide_eq_true rfl, Bool.true_and, List.all_eq_true]
  intro q hq
  obtain ⟨p, hp, rfl⟩ := List.mem_map.mp hq
  simp only [get_mem nd p hp, decide_true]
theorem e_neK {g : List (Nat × Nat)} (nd : (keys g).Nodup) : oNee (.mk (kv g)) (.mk (kv g)) = some (.bool false) := by
  have h1 : oNe (.mk (kv g)) (.mk (kv g)) = none := rfl
  have h2 : oEqK true (.mk (kv g)) (.mk (kv g)) = some (.bool false) := by
    unfold oEqK
    simp only [same_kv nd, if_true]
    rfl
  simp only [oNee, orO, h1, h2]
theorem binKK {op : Op2} {ρ : PP.Env} {i j : Nat} {a c : List (Key × PyData)} {d : PyData} (h : ρ[i]? = some (some (.mk a))) (h2 : ρ[j]? = some (some (.mk c))) (ho : op (.mk a) (.mk c) = some d) : cBin op (cVar i) (cVar j) ρ = some (.ok (.dat d) ρ) := by
  simp [cBin, varK h, varK h2, fin2, resK h, resK h2, ho]
theorem inl_kv (g : List (Nat × Nat)) : inlK (kv g) = some ((keys g).map fun i : Nat => (i : Int)) := by
  induction g with
  | nil => rfl
  | cons p g ih =>
    have e : kv (p :: g) = (.inl (p.1 : Int), .int (p.2 : Int)) :: kv g := rfl
    rw [e]
    unfold inlK
    rw [ih]
    rfl
theorem e_listK {g : List (Nat × Nat)} {ρ : PP.Env} {i : Nat} (h : ρ[i]? = some (some (.mk (kv g)))) : cB bList (aCons (cVar i) aNil) ρ = some (.ok (D (nl (keys g))) ρ) := by
  have h1 : bList [.mk (kv g)] = some (D (nl (keys g))) := by
    have h2 : bLst [.mk (kv g)] = none := rfl
    have h3 : bKeys [.mk (kv g)] = some (D (nl (keys g))) := by
      unfold bKeys
      simp only [inl_kv, nl, iz_eq]
    unfold bList orB
    rw [h2, h3]
  simp [cB, aCons, aNil, varK h, resK h, argOk, finB, h1]
theorem EF_mono {b : Bk} {k : Nat} {js ks : List Nat} (h : ∀ j ∈ ks, j ∈ js) (hh : EF b k js = true) : EF b k ks = true := by
  obtain ⟨r, hr, hn⟩ := List.any_eq_true.mp hh
  refine List.any_eq_true.mpr ⟨r, hr, ?_⟩
  cases e : hasF r.1 ks with
  | false => rfl
  | true =>
    rw [hasF_mono h e] at hn
    cases hn
theorem rest_sub {n : Nat} {ks ls : List Nat} (h : ∀ k ∈ ks, k ∈ ls) : ∀ j ∈ restF n ls, j ∈ restF n ks := fun j hj => by
  obtain ⟨h1, h2⟩ := restF_mem.mp hj
  exact restF_mem.mpr ⟨h1, fun z => h2 (h j z)⟩
theorem lw_EF {b : Bk} : ∀ (m : Nat) (g : List (Nat × Nat)) (r : Nat), (∀ k ∈ keys g, EF b k (restF b.n (keys g)) = true) → ∀ k ∈ keys (lwF b m g r), EF b k (restF b.n (keys (lwF b m g r))) = true
  | 0, _, _, h => h
  | m + 1, g, r, h => by
    unfold lwF
    refine lw_EF m _ _ fun k hk => ?_
    rw [keys_app, keys_map] at hk ⊢
    have hs : ∀ j ∈ restF b.n (keys g ++ rnd b g), j ∈ restF b.n (keys g) := rest_sub fun j hj => List.mem_append_left _ hj
    rcases List.mem_append.mp hk with hk | hk
    · exact EF_mono hs (h k hk)
    · exact EF_mono hs (rnd_mem.mp hk).2.2
/-- the rounds told by can_end -/
def gF (b : Bk) : List (Nat × Nat) := lwF b b.n [] 0
theorem gF_fix (b : Bk) : rnd b (gF b) = [] := lw_end b.n [] 0 GOk.nil (Nat.le_add_left _ _)
theorem lw_ok {b : Bk} : ∀ (m : Nat) (g : List (Nat × Nat)) (r : Nat), GOk b g → GOk b (lwF b m g r)
  | 0, _, _, h => h
  | m + 1, g, r, h => lw_ok m _ _ (h.step _)
theorem gF_ok (b : Bk) : GOk b (gF b) := lw_ok b.n [] 0 GOk.nil
theorem gF_ce (b : Bk) : ceF b (b.n + 1) [] 0 = some (gF b) := ce_lw b.n [] 0 GOk.nil (Nat.le_add_left _ _)
theorem gF_EF (b : Bk) {k : Nat} (hk : k < b.n) : EF b k (restF b.n (keys (gF b))) = (keys (gF b)).contains k := by
  rw [Bool.eq_iff_iff, List.contains_iff_mem]
  constructor
  · intro h
    refine Decidable.byContradiction fun hn => ?_
    have : k ∈ rnd b (gF b) := rnd_mem.mpr ⟨hk, hn, h⟩
    rw [gF_fix] at this
    cases this
  · exact lw_EF b.n [] 0 (fun k hk => nomatch hk) k
theorem gF_acc (b : Bk) {js : List Nat} (h : acF b js = true) (hl : ∀ j ∈ js, j < b.n) : ∀ j ∈ js, j ∈ restF b.n (keys (gF b)) := fun j hj => restF_mem.mpr ⟨hl j hj, ac_lw h hl b.n [] 0 (fun j _ h => nomatch h) j hj⟩
theorem restF_len {n : Nat} {ks : List Nat} : (restF n ks).length ≤ n := by
  unfold restF
  refine Nat.le_trans (List.length_filter_le _ _) ?_
  rw [List.length_range]
  exact Nat.le_refl _
theorem has_rest {n : Nat} {r : List Int} {ks : List Nat} : hasF r (restF n ks) = (List.range n).any fun j => decide (0 < at_ r j) && !ks.contains j := by
  unfold hasF restF
  rw [List.any_filter]
  congr 1
  funext j
  exact Bool.and_comm _ _
end PP.K03

end
section
set_option Elab.async false
set_option linter.all false
set_option maxRecDepth 100000
set_option maxHeartbeats 1000000
/-! K03zb: _law_ends, its rounds. -/
namespace PP.K03
open PySem PySem.Spec PyProof.Rows L2 PP

section
variable {b : Bk}
def EL (b : Bk) (g gd : List (Nat × Nat)) (s : Nat) (x5 x6 x7 : Option Val) : PP.Env := [some (D (bkD b)), some (D (nl (List.range b.n))), some (D (nl (keys g))), some (.mk (kv gd)), some (I ((s : Nat) : Int)), x5, x6, x7, none, none, none, none, none, none, none, none]
noncomputable def bodyLE : Ex := (bSeq (sSet 2 4 (cBin oAdd (cVar 4) (cC (.int (1))))) (bSeq (sSet 2 6 (cLc [7] (iSeq (cVar 1)) (tName 0 7) (cAndB (cTst (cBin oNotIn (cVar 7) (cVar 2))) (cTst (cBin oGt (cB bLen (aCons (cLc [8, 9] (iSeq (cBin oIx (cBin oIx (cVar 0) (cC (.int (2)))) (cVar 7))) (tPair 0 8 9) (cTst (cBin oEqq (cB bLen (aCons (cLc [10] (iSeq (cVar 1)) (tName 0 10) (cAndB (cTst (cBin oGt (cBin oIx (cVar 8) (cVar 10)) (cC (.int (0))))) (cTst (cBin oNotIn (cVar 10) (cVar 2)))) (cC (.int (1)))) aNil)) (cC (.int (0))))) (cC (.int (1)))) aNil)) (cC (.int (0)))))) (cVar 7))) (bSeq (sFor (iSeq (cVar 6)) (tName 2 7) (sPut 3 (cVar 7) (cVar 4))) (sSet 2 2 (cBin oAdd (cVar 2) (cVar 6))))))
theorem le_fresh (o : BkOk b) (g gd : List (Nat × Nat)) (s : Nat) (x5 x6 x7 : Option Val) : cLc [7] (iSeq (cVar 1)) (tName 0 7) (cAndB (cTst (cBin oNotIn (cVar 7) (cVar 2))) (cTst (cBin oGt (cB bLen (aCons (cLc [8, 9] (iSeq (cBin oIx (cBin oIx (cVar 0) (cC (.int (2)))) (cVar 7))) (tPair 0 8 9) (cTst (cBin oEqq (cB bLen (aCons (cLc [10] (iSeq (cVar 1)) (tName 0 10) (cAndB (cTst (cBin oGt (cBin oIx (cVar 8) (cVar 10)) (cC (.int (0))))) (cTst (cBin oNotIn (cVar 10) (cVar 2)))) (cC (.int (1)))) aNil)) (cC (.int (0))))) (cC (.int (1)))) aNil)) (cC (.int (0)))))) (cVar 7) (EL b g gd s x5 x6 x7) = some (.ok (D (nl (rnd b g))) (EL b g gd s x5 x6 x7)) := by
  have h3 := o.n3
  refine lc_f (v := 7) (List.range b.n) (fun i : Nat => .int (i : Int)) (fun k => !(keys g).contains k && EF b k (restF b.n (keys g))) (fun i : Nat => .int (i : Int)) (it_L (f := cVar 1) (ds := (List.range b.n).map fun i : Nat => .int (i : Int)) (var rfl)) (by simp [EL]) (by simp; omega) (fun k hk => andB1 (tst (bin (b := nl (keys g)) (var rfl) (var rfl) (e_ninL (keys g) k))) fun _ => ?_) (fun k hk _ => var rfl)
  have hk' := List.mem_range.mp hk
  have lo := litN_ok o hk'
  have hl := lo.len
  have hp := lc_pf (v := 8) (u := 9) (c := (cTst (cBin oEqq (cB bLen (aCons (cLc [10] (iSeq (cVar 1)) (tName 0 10) (cAndB (cTst (cBin oGt (cBin oIx (cVar 8) (cVar 10)) (cC (.int (0))))) (cTst (cBin oNotIn (cVar 10) (cVar 2)))) (cC (.int (1)))) aNil)) (cC (.int (0)))))) (e := cC (.int 1)) (ρ := EL b g gd s x5 x6 (some (I (k : Int)))) (litN b k) (fun r => rowD r.1) (fun r => pd (red (r.2 : Int) (sumL (litN b k)))) (fun r => !hasF r.1 (restF b.n (keys g))) (fun _ => .int 1) (it_lit (f := cVar 0) (g := cVar 7) o hk' (var rfl) (var rfl)) (by simp [EL]) (by simp [EL]) (by omega) (fun r hr => ?_) (fun r hr _ => const _ _)
  · have := tst (bin (op := oGt) (b1_len hp) (const (.int 0) _) (e_gtI _ _))
    rw [List.length_map, gt_len] at this
    exact this
  · have hrl := (lo.lot r hr).1
    have := tst (bin (op := oEqq) (b1_len (lc_f (v := 10) (c := (cAndB (cTst (cBin oGt (cBin oIx (cVar 8) (cVar 10)) (cC (.int (0))))) (cTst (cBin oNotIn (cVar 10) (cVar 2))))) (e := cC (.int 1)) (ρ := ((wipeE (EL b g gd s x5 x6 (some (I (k : Int)))) [8, 9]).set 8 (some (.dat (rowD r.1)))).set 9 (some (.dat (pd (red (r.2 : Int) (sumL (litN b k))))))) (List.range b.n) (fun i : Nat => .int (i : Int)) (fun j => decide (0 < at_ r.1 j) && !(keys g).contains j) (fun _ => .int 1) (it_L (f := cVar 1) (ds := (List.range b.n).map fun i : Nat => .int (i : Int)) (var rfl)) (by simp [EL, wipeE]) (by simp; omega) (fun j hj => andB1 (tst (bin (ixT (var (i := 8) (d := rowD r.1) rfl) (var (i := 10) (d := .int (j : Int)) rfl) (ix_row (by have := List.mem_range.mp hj; omega))) (const (.int 0) _) (e_gtI _ _))) fun _ => tst (bin (var (i := 10) (d := .int (j : Int)) rfl) (var (i := 2) (d := nl (keys g)) rfl) (e_ninL (keys g) j))) fun j hj _ => const _ _)) (const (.int 0) _) (e_eqI _ _))
    rw [List.length_map, eq0_len, ← has_rest] at this
    exact this
theorem le_step (o : BkOk b) (g : List (Nat × Nat)) (s : Nat) (x5 x6 x7 : Option Val) (hl : g.length + 3 ≤ 1000) : ∃ x6' x7', bodyLE (EL b g g s x5 x6 x7) = some (.ok .nx (EL b (g ++ (rnd b g).map fun k => (k, s + 1)) (g ++ (rnd b g).map fun k => (k, s + 1)) (s + 1) x5 x6' x7')) := by
  have h3 := o.n3
  have hrl : (rnd b g).length ≤ b.n := by
    unfold rnd
    refine Nat.le_trans (List.length_filter_le _ _) ?_
    rw [List.length_range]
    exact Nat.le_refl _
  have h1 : sSet 2 4 (cBin oAdd (cVar 4) (cC (.int (1)))) (EL b g g s x5 x6 x7) = some (.ok .nx (EL b g g (s + 1) x5 x6 x7)) := set_d (bin (var (i := 4) (d := .int (s : Int)) rfl) (const (.int 1) _) (e_addI _ _)) (by omega)
  have h2 := set_d (np := 2) (i := 6) (le_fresh o g g (s + 1) x5 x6 x7) (by omega)
  have nd : (rnd b g).Nodup := List.nodup_range.sublist List.filter_sublist
  obtain ⟨x7', hf⟩ := put_all (np := 2) (i := 3) (v := 7) (u := 0) (E := fun g' o => EL b g g' (s + 1) x5 (some (D (nl (rnd b g)))) o) (r := s + 1) (fk := cVar 7) (fv := cVar 4) (fun g' o => rfl) (fun g' j => var rfl) (fun g' j => var rfl) (fun g' g'' o => rfl) (fun g' o j => rfl) (rnd b g) g x7 nd (fun k hk => by
    have := (rnd_mem.mp hk).2.1
    rw [Bool.eq_false_iff, Ne, List.contains_iff_mem]
    exact this) (by omega)
  have h4 : sFor (iSeq (cVar 6)) (tName 2 7) (sPut 3 (cVar 7) (cVar 4)) (EL b g g (s + 1) x5 (some (D (nl (rnd b g)))) x7) = some (.ok .nx (EL b g (g ++ (rnd b g).map fun k => (k, s + 1)) (s + 1) x5 (some (D (nl (rnd b g)))) x7')) := by
    unfold sFor
    rw [it_L (f := cVar 6) (ds := iz (rnd b g)) (var rfl), bnd_ok]
    exact hf
  have hkl : (keys g).length = g.length := List.length_map _
  have e : iz (keys g) ++ iz (rnd b g) = iz (keys (g ++ (rnd b g).map fun k => (k, s + 1))) := by
    rw [keys_app, keys_map]
    unfold iz
    rw [List.map_append]
  have hc := bin (op := oAdd) (fa := cVar 2) (fb := cVar 6) (ρ := EL b g (g ++ (rnd b g).map fun k => (k, s + 1)) (s + 1) x5 (some (D (nl (rnd b g)))) x7') (var (d := nl (keys g)) rfl) (var (d := nl (rnd b g)) rfl) (e_catL (by simp only [iz, List.length_map]; omega))
  rw [e] at hc
  refine ⟨some (D (nl (rnd b g))), x7', ?_⟩
  unfold bodyLE
  rw [seq_nx h1, seq_nx h2]
  show bSeq _ _ (EL b g g (s + 1) x5 (some (D (nl (rnd b g)))) x7) = _
  rw [seq_nx h4]
  exact set_d hc (by omega)
theorem le_loop (o : BkOk b) : ∀ (xs : List Nat) (g : List (Nat × Nat)) (s : Nat) (x5 x6 x7 : Option Val), g.length + 3 * xs.length ≤ 900 → ∃ x5' x6' x7', forL (tName 2 5) bodyLE (iz xs) (EL b g g s x5 x6 x7) = some (.ok .nx (EL b (lwF b xs.length g s) (lwF b xs.length g s) (s + xs.length) x5' x6' x7'))
  | [], g, s, x5, x6, x7, _ => ⟨x5, x6, x7, rfl⟩
  | x :: xs, g, s, x5, x6, x7, hl => by
    rw [List.length_cons] at hl
    have h3 := o.n3
    have hrl : (rnd b g).length ≤ b.n := by
      unfold rnd
      refine Nat.le_trans (List.length_filter_le _ _) ?_
      rw [List.length_range]
      exact Nat.le_refl _
    obtain ⟨y6, y7, h1⟩ := le_step o g s (some (I (x : Int))) x6 x7 (by omega)
    obtain ⟨z5, z6, z7, h2⟩ := le_loop o xs (g ++ (rnd b g).map fun k => (k, s + 1)) (s + 1) (some (I (x : Int))) y6 y7 (by rw [List.length_append, List.length_map]; omega)
    refine ⟨z5, z6, z7, ?_⟩
    have e : iz (x :: xs) = .int (x : Int) :: iz xs := rfl
    have ht : tName 2 5 (.int (x : Int)) (EL b g g s x5 x6 x7) = some (EL b g g s (some (I (x : Int))) x6 x7) := rfl
    have es : s + (xs.length + 1) = s + 1 + xs.length := by omega
    rw [e]
    unfold forL
    rw [ht]
    simp only
    rw [h1, bnd_ok, List.length_cons, es]
    exact h2
theorem le_for (o : BkOk b) : ∃ x5 x6 x7, sFor (iSeq (cVar 1)) (tName 2 5) bodyLE (EL b [] [] 0 none none none) = some (.ok .nx (EL b (gF b) (gF b) b.n x5 x6 x7)) := by
  have h3 := o.n3
  obtain ⟨x5, x6, x7, h⟩ := le_loop o (List.range b.n) [] 0 none none none (by simp; omega)
  rw [List.length_range, Nat.zero_add] at h
  refine ⟨x5, x6, x7, ?_⟩
  unfold sFor
  rw [it_L (f := cVar 1) (ds := iz (List.range b.n)) (var rfl), bnd_ok]
  exact h
end
end PP.K03

end
section
set_option Elab.async false
set_option linter.all false
set_option maxRecDepth 100000
set_option maxHeartbeats 1000000
/-! K03zc: _law_ends, its dicts and lots. -/
namespace PP.K03
open PySem PySem.Spec PyProof.Rows L2 PP

section
variable {b : Bk}
abbrev nv (b : Bk) : List Nat := restF b.n (keys (gF b))
def EM (b : Bk) (x5 x6 x7 x8 x13 x14 x15 : Option Val) : PP.Env := [some (D (bkD b)), some (D (nl (List.range b.n))), some (D (nl (keys (gF b)))), some (.mk (kv (gF b))), some (I ((b.n : Nat) : Int)), x5, x6, x7, x8, none, none, some (.mk (kv (gF b))), some (D (nl (nv b))), x13, x14, x15]
theorem lm_told (k : Nat) (o : BkOk b) (x5 x6 x7 : Option Val) : bSeq (sSet 2 11 (cCall (tab (k + 4)) "can_end" (aCons (cVar 0) aNil))) (sSet 2 12 (cLc [7] (iSeq (cVar 1)) (tName 0 7) (cTst (cBin oNotIn (cVar 7) (cVar 3))) (cVar 7))) (EL b (gF b) (gF b) b.n x5 x6 x7) = some (.ok .nx (EM b x5 x6 x7 none none none none)) := by
  have h3 := o.n3
  have hce := t_can_end (k + 1) o (b.n + 1) (by omega) (gF b) (gF_ce b)
  have hcall : cCall (tab (k + 4)) "can_end" (aCons (cVar 0) aNil) (EL b (gF b) (gF b) b.n x5 x6 x7) = some (.ok (.mk (kv (gF b))) (EL b (gF b) (gF b) b.n x5 x6 x7)) := by
    have hc : callV (tab (k + 4)) "can_end" [D (bkD b)] (EL b (gF b) (gF b) b.n x5 x6 x7) = some (.ok (.mk (kv (gF b))) (EL b (gF b) (gF b) b.n x5 x6 x7)) := callV_ok (by simp) rfl hce rfl rfl
    unfold cCall
    rw [a1_ok (var rfl), bnd_ok]
    exact hc
  have hs : sSet 2 11 (cCall (tab (k + 4)) "can_end" (aCons (cVar 0) aNil)) (EL b (gF b) (gF b) b.n x5 x6 x7) = some (.ok .nx ((EL b (gF b) (gF b) b.n x5 x6 x7).set 11 (some (.mk (kv (gF b)))))) := by
    unfold sSet
    rw [hcall, bnd_ok]
    rfl
  rw [seq_nx hs]
  exact set_d (lc_f (v := 7) (c := cTst (cBin oNotIn (cVar 7) (cVar 3))) (e := cVar 7) (ρ := (EL b (gF b) (gF b) b.n x5 x6 x7).set 11 (some (.mk (kv (gF b))))) (List.range b.n) (fun i : Nat => .int (i : Int)) (fun j => !(keys (gF b)).contains j) (fun i : Nat => .int (i : Int)) (it_L (f := cVar 1) (ds := (List.range b.n).map fun i : Nat => .int (i : Int)) (var rfl)) (by simp [EL]) (by simp; omega) (fun j hj => tst (bindK (ds := kv (gF b)) rfl (var rfl) (e_ninK _ _))) (fun j hj _ => var rfl)) (by omega)
theorem lm_if (k : Nat) (o : BkOk b) (x5 x6 x7 x8 x13 x14 x15 : Option Val) : cOrB (cTst (cBin oNee (cVar 11) (cVar 3))) (cOrB (cTst (cBin oNee (cB bList (aCons (cVar 11) aNil)) (cB bList (aCons (cVar 3) aNil)))) (cOrB (cTst (cBin oNee (cCall (tab (k + 4)) "endless" (aCons (cVar 0) aNil)) (cVar 12))) (cTst (cBin oNee (cLc [7] (iSeq (cVar 1)) (tName 0 7) cYes (cCall (tab (k + 4)) "ends_by" (aCons (cVar 0) (aCons (cVar 7) (aCons (cVar 11) aNil))))) (cLc [7] (iSeq (cVar 1)) (tName 0 7) cYes (cBin oIn (cVar 7) (cVar 3))))))) (EM b x5 x6 x7 x8 x13 x14 x15) = some (.ok false (EM b x5 x6 x7 x8 x13 x14 x15)) := by
  have h3 := o.n3
  have e1 := tst (binKK (op := oNee) (ρ := EM b x5 x6 x7 x8 x13 x14 x15) (i := 11) (j := 3) (a := kv (gF b)) (c := kv (gF b)) rfl rfl (e_neK (gF_ok b).nd))
  have e2 := tst (bin (op := oNee) (e_listK (g := gF b) (i := 11) (ρ := EM b x5 x6 x7 x8 x13 x14 x15) rfl) (e_listK (g := gF b) (i := 3) rfl) (e_neS (tm_nl 0 _) (by omega)))
  have e3 := tst (bin (op := oNee) (call1 (fa := cVar 0) (ρ := EM b x5 x6 x7 x8 x13 x14 x15) (var rfl) (t_endless k o (b.n + 1) (by omega) (gF b) (gF_ce b))) (var (i := 12) rfl) (e_neS (tm_nl 0 _) (by omega)))
  have l1 := lc_mb (v := 7) (e := cCall (tab (k + 4)) "ends_by" (aCons (cVar 0) (aCons (cVar 7) (aCons (cVar 11) aNil)))) (ρ := EM b x5 x6 x7 x8 x13 x14 x15) (List.range b.n) (fun i : Nat => .int (i : Int)) (fun j => (keys (gF b)).contains j) (it_L (f := cVar 1) (ds := (List.range b.n).map fun i : Nat => .int (i : Int)) (var rfl)) (by simp [EM]) (by simp; omega) (fun j hj => by
    rw [← gF_EF b (List.mem_range.mp hj)]
    exact call3K (ds := kv (gF b)) rfl (var rfl) (var rfl) (t_ends_by (k + 2) o j (List.mem_range.mp hj) (gF b)))
  have l2 := lc_mb (v := 7) (e := cBin oIn (cVar 7) (cVar 3)) (ρ := EM b x5 x6 x7 x8 x13 x14 x15) (List.range b.n) (fun i : Nat => .int (i : Int)) (fun j => (keys (gF b)).contains j) (it_L (f := cVar 1) (ds := (List.range b.n).map fun i : Nat => .int (i : Int)) (var rfl)) (by simp [EM]) (by simp; omega) (fun j hj => bindK (ds := kv (gF b)) rfl (var rfl) (e_inK _ _))
  have e4 := tst (bin (op := oNee) l1 l2 (e_neS (n := 1) (tm_map _ _ fun x _ => tm_bool 0 _) (by omega)))
  exact orB1 e1 fun _ => orB1 e2 fun _ => orB1 e3 fun _ => e4
/-! ### the lots -/
def tl (js : List Nat) : PyData := .tuple (iz js)
def subS (L : List (List Nat)) (x : Nat) : List (List Nat) := L ++ L.map fun js => js ++ [x]
theorem sub_step (o : BkOk b) (L : List (List Nat)) (x : Nat) (hL : L.length ≤ 1000) (hj : ∀ js ∈ L, js.length ≤ 1000) (x5 x6 x8 x14 x15 : Option Val) : sSet 2 13 (cBin oAdd (cVar 13) (cLc [8] (iSeq (cVar 13)) (tName 0 8) cYes (cBin oAdd (cVar 8) (cTup (aCons (cVar 7) aNil))))) (EM b x5 x6 (some (I (x : Int))) x8 (some (D (.list (L.map tl)))) x14 x15) = some (.ok .nx (EM b x5 x6 (some (I (x : Int))) x8 (some (D (.list ((subS L x).map tl)))) x14 x15)) := by
  have hlc := lc_m (v := 8) (e := cBin oAdd (cVar 8) (cTup (aCons (cVar 7) aNil))) (ρ := EM b x5 x6 (some (I (x : Int))) x8 (some (D (.list (L.map tl)))) x14 x15) L tl (fun js => tl (js ++ [x])) (it_L (f := cVar 13) (var rfl)) (by simp [EM]) (by omega) (fun js hjs => by
    have := e_catTT (a := iz js) (c := [.int (x : Int)]) (by simp only [iz, List.length_map, List.length_singleton]; have := hj js hjs; omega)
    have e : iz js ++ [PyData.int (x : Int)] = iz (js ++ [x]) := by
      unfold iz
      rw [List.map_append]
      rfl
    rw [e] at this
    exact bin (var (i := 8) (d := .tuple (iz js)) rfl) (show cTup (aCons (cVar 7) aNil) _ = some (.ok (D (.tuple [.int (x : Int)])) _) from rfl) this)
  have := bin (op := oAdd) (var (i := 13) (d := .list (L.map tl)) rfl) hlc (e_catL (by rw [List.length_map, List.length_map]; omega))
  have e : L.map tl ++ L.map (fun js => tl (js ++ [x])) = (subS L x).map tl := by
    unfold subS
    rw [List.map_append, List.map_map]
    rfl
  rw [e] at this
  exact set_d this (by omega)
theorem sub_loop (o : BkOk b) (x5 x6 x8 x14 x15 : Option Val) : ∀ (xs : List Nat) (L : List (List Nat)) (x7 : Option Val), (∀ x ∈ xs, x < b.n) → L.length * 2 ^ xs.length ≤ 1000 → (∀ js ∈ L, js.length + xs.length ≤ 100 ∧ ∀ j ∈ js, j < b.n) →
    ∃ (L' : List (List Nat)) (x7' : Option Val), (L'.length ≤ 1000 ∧ ∀ js ∈ L', js.length ≤ 100 ∧ ∀ j ∈ js, j < b.n) ∧ forL (tName 2 7) (sSet 2 13 (cBin oAdd (cVar 13) (cLc [8] (iSeq (cVar 13)) (tName 0 8) cYes (cBin oAdd (cVar 8) (cTup (aCons (cVar 7) aNil)))))) (iz xs) (EM b x5 x6 x7 x8 (some (D (.list (L.map tl)))) x14 x15) = some (.ok .nx (EM b x5 x6 x7' x8 (some (D (.list (L'.map tl)))) x14 x15))
  | [], L, x7, _, hL, hj => ⟨L, x7, ⟨by simpa using hL, hj⟩, rfl⟩
  | x :: xs, L, x7, hx, hL, hj => by
    have hp : 0 < 2 ^ xs.length := Nat.pos_of_ne_zero (by simp)
    rw [List.length_cons, Nat.pow_succ] at hL
    have hL1 : L.length ≤ 1000 := Nat.le_trans (Nat.le_mul_of_pos_right _ (by omega)) hL
    obtain ⟨L', x7', h1, h2⟩ := sub_loop o x5 x6 x8 x14 x15 xs (subS L x) (some (I (x : Int))) (fun y hy => hx y (List.mem_cons_of_mem _ hy)) (by
      unfold subS
      rw [List.length_append, List.length_map, ← Nat.two_mul, Nat.mul_comm 2, Nat.mul_assoc, Nat.mul_comm 2]
      exact hL) (fun js hjs => by
      rcases List.mem_append.mp hjs with hjs | hjs
      · obtain ⟨a1, a2⟩ := hj js hjs
        rw [List.length_cons] at a1
        exact ⟨by omega, a2⟩
      · obtain ⟨is, his, rfl⟩ := List.mem_map.mp hjs
        obtain ⟨a1, a2⟩ := hj is his
        rw [List.length_cons] at a1
        refine ⟨by rw [List.length_append, List.length_singleton]; omega, fun j hjj => ?_⟩
        rcases List.mem_append.mp hjj with hjj | hjj
        · exact a2 j hjj
        · rw [List.mem_singleton.mp hjj]
          exact hx x List.mem_cons_self)
    refine ⟨L', x7', h1, ?_⟩
    have e : iz (x :: xs) = .int (x : Int) :: iz xs := rfl
    have ht : tName 2 7 (.int (x : Int)) (EM b x5 x6 x7 x8 (some (D (.list (L.map tl)))) x14 x15) = some (EM b x5 x6 (some (I (x : Int))) x8 (some (D (.list (L.map tl)))) x14 x15) := rfl
    rw [e]
    unfold forL
    rw [ht]
    simp only
    rw [sub_step o L x hL1 (fun js hjs => by have := (hj js hjs).1; omega), bnd_ok]
    exact h2
theorem sub_for (o : BkOk b) (x5 x6 x7 x8 x14 x15 : Option Val) : ∃ (L' : List (List Nat)) (x7' : Option Val), (L'.length ≤ 1000 ∧ ∀ js ∈ L', js.length ≤ 100 ∧ ∀ j ∈ js, j < b.n) ∧ sFor (iSeq (cVar 1)) (tName 2 7) (sSet 2 13 (cBin oAdd (cVar 13) (cLc [8] (iSeq (cVar 13)) (tName 0 8) cYes (cBin oAdd (cVar 8) (cTup (aCons (cVar 7) aNil)))))) (EM b x5 x6 x7 x8 (some (D (.list [.tuple []]))) x14 x15) = some (.ok .nx (EM b x5 x6 x7' x8 (some (D (.list (L'.map tl)))) x14 x15)) := by
  have h3 := o.n3
  obtain ⟨L', x7', h1, h2⟩ := sub_loop o x5 x6 x8 x14 x15 (List.range b.n) [[]] x7 (fun x hx => List.mem_range.mp hx) (by
    rw [List.length_range, List.length_singleton, Nat.one_mul]
    exact Nat.le_trans (Nat.pow_le_pow_right (by omega) h3) (by decide)) (fun js hjs => by
    rw [List.mem_singleton.mp hjs]
    exact ⟨by simp; omega, fun j hj => nomatch hj⟩)
  refine ⟨L', x7', h1, ?_⟩
  unfold sFor
  rw [it_L (f := cVar 1) (ds := iz (List.range b.n)) (var rfl), bnd_ok]
  exact h2
theorem chk_lot (k : Nat) (o : BkOk b) (js : List Nat) (hl : js.length ≤ 100) (hj : ∀ j ∈ js, j < b.n) (x5 x6 x7 x13 x14 x15 : Option Val) : ∃ x7' x14', bSeq (sSet 2 14 (cBin oEqq (cCall (tab (k + 4)) "_law_rows" (aCons (cVar 0) (aCons (cVar 8) aNil))) (cCall (tab (k + 4)) "_law_turns_back" (aCons (cVar 0) (aCons (cVar 8) aNil))))) (sFor (iSeq (cVar 1)) (tName 2 7) (sIf (cOrB (cTst (cBin oNee (cCall (tab (k + 4)) "accepts_endless" (aCons (cVar 0) (aCons (cVar 7) (aCons (cVar 8) aNil)))) (cAnd (cVar 14) (cBin oIn (cVar 7) (cVar 8))))) (cAndB (cTst (cVar 14)) (cAndB (cTst (cBin oIn (cVar 7) (cVar 8))) (cTst (cBin oNotIn (cVar 7) (cVar 12)))))) (sRet (cC (.bool false))) bNil)) (EM b x5 x6 x7 (some (D (tl js))) x13 x14 x15) = some (.ok .nx (EM b x5 x6 x7' (some (D (tl js))) x13 x14' x15)) := by
  have h3 := o.n3
  have hh := bin (op := oEqq) (call2 (fa := cVar 0) (fb := cVar 8) (ρ := EM b x5 x6 x7 (some (D (tl js))) x13 x14 x15) (var rfl) (var (d := tl js) rfl) (t_rows (k + 3) o hj hl)) (call2 (fa := cVar 0) (fb := cVar 8) (var rfl) (var (d := tl js) rfl) (t_turnsT (k + 3) o hj hl)) (e_eqI _ _)
  rw [holds_eq o hj] at hh
  obtain ⟨x7', hf⟩ := forL_keep (np := 2) (v := 7) (by omega) (ρ0 := EM b x5 x6 x7 (some (D (tl js))) x13 (some (D (.bool (acF b js)))) x15) (body := (sIf (cOrB (cTst (cBin oNee (cCall (tab (k + 4)) "accepts_endless" (aCons (cVar 0) (aCons (cVar 7) (aCons (cVar 8) aNil)))) (cAnd (cVar 14) (cBin oIn (cVar 7) (cVar 8))))) (cAndB (cTst (cVar 14)) (cAndB (cTst (cBin oIn (cVar 7) (cVar 8))) (cTst (cBin oNotIn (cVar 7) (cVar 12)))))) (sRet (cC (.bool false))) bNil)) (fun i : Nat => .int (i : Int)) (List.range b.n) (fun j hjn => by
    refine tst2 ?_
    have c1 := call3 (fa := cVar 0) (fb := cVar 7) (fc := cVar 8) (ρ := (EM b x5 x6 x7 (some (D (tl js))) x13 (some (D (.bool (acF b js)))) x15).set 7 (some (.dat (.int (j : Int))))) (var rfl) (var rfl) (var (d := tl js) rfl) (t_accepts (k + 2) o j hj hl)
    have c2 := and1 (f := cVar 14) (g := cBin oIn (cVar 7) (cVar 8)) (ρ := (EM b x5 x6 x7 (some (D (tl js))) x13 (some (D (.bool (acF b js)))) x15).set 7 (some (.dat (.int (j : Int))))) (var rfl) (fun _ => bin (var rfl) (var (d := tl js) rfl) (e_inT js j))
    rw [Bool.and_comm] at c2
    have c3 := tst (bin (op := oNee) c1 c2 (e_neS (tm_bool 0 _) (by omega)))
    have c4 := tst (var (i := 14) (ρ := (EM b x5 x6 x7 (some (D (tl js))) x13 (some (D (.bool (acF b js)))) x15).set 7 (some (.dat (.int (j : Int))))) (d := .bool (acF b js)) rfl)
    have c5 := tst (bin (op := oIn) (fa := cVar 7) (fb := cVar 8) (ρ := (EM b x5 x6 x7 (some (D (tl js))) x13 (some (D (.bool (acF b js)))) x15).set 7 (some (.dat (.int (j : Int))))) (var rfl) (var (d := tl js) rfl) (e_inT js j))
    have c6 := tst (bin (op := oNotIn) (fa := cVar 7) (fb := cVar 12) (ρ := (EM b x5 x6 x7 (some (D (tl js))) x13 (some (D (.bool (acF b js)))) x15).set 7 (some (.dat (.int (j : Int))))) (var rfl) (var (d := nl (nv b)) rfl) (e_ninL (nv b) j))
    have c7 := orB1 c3 fun _ => andB1 c4 fun _ => andB1 c5 fun _ => c6
    have e : (false || (acF b js && (js.contains j && !(nv b).contains j))) = false := by
      rw [Bool.false_or]
      cases ha : acF b js with
      | false => rfl
      | true =>
        rw [Bool.true_and]
        cases hc : js.contains j with
        | false => rfl
        | true =>
          have := gF_acc b ha hj j (List.contains_iff_mem.mp hc)
          rw [List.contains_iff_mem.mpr this]
          rfl
    rw [e] at c7
    exact c7) x7
  refine ⟨x7', some (D (.bool (acF b js))), ?_⟩
  rw [seq_nx (set_d hh (by omega))]
  show sFor _ _ _ (EM b x5 x6 x7 (some (D (tl js))) x13 (some (D (.bool (acF b js)))) x15) = _
  unfold sFor
  rw [it_L (f := cVar 1) (ds := (List.range b.n).map fun i : Nat => .int (i : Int)) (var rfl), bnd_ok]
  exact hf
end
end PP.K03

end
section
set_option Elab.async false
set_option linter.all false
set_option maxRecDepth 100000
set_option maxHeartbeats 1000000
/-! K03zd: _law_ends whole. -/
namespace PP.K03
open PySem PySem.Spec PyProof.Rows L2 PP

section
variable {b : Bk}
noncomputable def bodyCL (k : Nat) : Ex := bSeq (sSet 2 14 (cBin oEqq (cCall (tab (k + 4)) "_law_rows" (aCons (cVar 0) (aCons (cVar 8) aNil))) (cCall (tab (k + 4)) "_law_turns_back" (aCons (cVar 0) (aCons (cVar 8) aNil))))) (sFor (iSeq (cVar 1)) (tName 2 7) (sIf (cOrB (cTst (cBin oNee (cCall (tab (k + 4)) "accepts_endless" (aCons (cVar 0) (aCons (cVar 7) (aCons (cVar 8) aNil)))) (cAnd (cVar 14) (cBin oIn (cVar 7) (cVar 8))))) (cAndB (cTst (cVar 14)) (cAndB (cTst (cBin oIn (cVar 7) (cVar 8))) (cTst (cBin oNotIn (cVar 7) (cVar 12)))))) (sRet (cC (.bool false))) bNil))
theorem cl_for (k : Nat) (o : BkOk b) (L : List (List Nat)) (hL : ∀ js ∈ L, js.length ≤ 100 ∧ ∀ j ∈ js, j < b.n) (x5 x6 x7 x8 x14 x15 : Option Val) : ∃ x7' x8' x14', sFor (iSeq (cVar 13)) (tName 2 8) (bodyCL k) (EM b x5 x6 x7 x8 (some (D (.list (L.map tl)))) x14 x15) = some (.ok .nx (EM b x5 x6 x7' x8' (some (D (.list (L.map tl)))) x14' x15)) := by
  obtain ⟨_, ⟨a, c, d⟩, hf⟩ := forL_inv (t := tName 2 8) (body := bodyCL k) tl (fun (_ : Unit) (z : Option Val × Option Val × Option Val) => EM b x5 x6 z.1 z.2.1 (some (D (.list (L.map tl)))) z.2.2 x15) (fun _ _ => ()) (fun _ => True) L (fun js hjs _ z _ => by
    obtain ⟨y7, y14, hc⟩ := chk_lot k o js (hL js hjs).1 (hL js hjs).2 x5 x6 z.1 (some (D (.list (L.map tl)))) z.2.2 x15
    exact ⟨trivial, EM b x5 x6 z.1 (some (D (tl js))) (some (D (.list (L.map tl)))) z.2.2 x15, rfl, (y7, some (D (tl js)), y14), hc⟩) () (x7, x8, x14) trivial
  refine ⟨a, c, d, ?_⟩
  unfold sFor
  rw [it_L (f := cVar 13) (ds := L.map tl) (var rfl), bnd_ok]
  exact hf
/-- what is never accepted -/
def Odd (k : Nat) (b : Bk) (v : PyData) : Prop := ∀ kd : Nat, tab (k + 4) "accepts_endless" [D (bkD b), I kd, D v] = some (.ok (D (.bool false)) [D (bkD b), I kd, D v])
def odds (b : Bk) : List PyData := [.none, nl (nv b), .tuple [.int 9], .tuple [.bool true], .tuple [.str (Str.ofString "a")]]
theorem odd_all (k : Nat) (o : BkOk b) : ∀ v ∈ odds b, Odd k b v := by
  have h3 := o.n3
  intro v hv kd
  simp only [odds, List.mem_cons, List.not_mem_nil, or_false] at hv
  rcases hv with rfl | rfl | rfl | rfl | rfl
  · exact t_acc_no (k + 2) kd .none "NoneType" rfl k_nt
  · exact t_acc_no (k + 2) kd (nl (nv b)) "list" rfl k_lt
  · refine t_acc_one (k + 2) o kd (.int 9) ?_
    have := t_whole (k + 2) 9 0 ((b.n : Int) - 1)
    rw [show decide ((9 : Int) ≤ (b.n : Int) - 1) = false from decide_eq_false (by omega), Bool.and_false] at this
    exact this
  · exact t_acc_one (k + 2) o kd (.bool true) (t_wholeB (k + 2) true 0 ((b.n : Int) - 1))
  · exact t_acc_one (k + 2) o kd (.str (Str.ofString "a")) (t_wholeS (k + 2) (Str.ofString "a") 0 ((b.n : Int) - 1))
noncomputable def bodyOD (k : Nat) : Ex := (sIf (cTst (cBin oNee (cLc [7] (iSeq (cVar 1)) (tName 0 7) cYes (cCall (tab (k + 4)) "accepts_endless" (aCons (cVar 0) (aCons (cVar 7) (aCons (cVar 15) aNil))))) (cBin oMul (cLst (aCons (cC (.bool false)) aNil)) (cB bLen (aCons (cVar 1) aNil))))) (sRet (cC (.bool false))) bNil)
theorem od_step (k : Nat) (o : BkOk b) (v : PyData) (hv : Odd k b v) (x5 x6 x7 x8 x13 x14 : Option Val) : bodyOD k (EM b x5 x6 x7 x8 x13 x14 (some (D v))) = some (.ok .nx (EM b x5 x6 x7 x8 x13 x14 (some (D v)))) := by
  have h3 := o.n3
  unfold bodyOD
  refine tst2 ?_
  have l1 := lc_mb (v := 7) (e := cCall (tab (k + 4)) "accepts_endless" (aCons (cVar 0) (aCons (cVar 7) (aCons (cVar 15) aNil)))) (ρ := EM b x5 x6 x7 x8 x13 x14 (some (D v))) (List.range b.n) (fun i : Nat => .int (i : Int)) (fun _ => false) (it_L (f := cVar 1) (ds := (List.range b.n).map fun i : Nat => .int (i : Int)) (var rfl)) (by simp [EM]) (by simp; omega) (fun j hj => call3 (fa := cVar 0) (fb := cVar 7) (fc := cVar 15) (var rfl) (var rfl) (var (d := v) rfl) (hv j))
  have hlen := b1_len (f := cVar 1) (ρ := EM b x5 x6 x7 x8 x13 x14 (some (D v))) (ds := (List.range b.n).map fun i : Nat => .int (i : Int)) (var rfl)
  rw [List.length_map, List.length_range] at hlen
  have l2 := bin (op := oMul) (fa := cLst (aCons (cC (.bool false)) aNil)) (ρ := EM b x5 x6 x7 x8 x13 x14 (some (D v))) (a := .list [.bool false]) rfl hlen (e_repL (by omega) _)
  have e : ((List.range b.n).map fun _ => false).map PyData.bool = List.replicate b.n (.bool false) := by
    rw [List.map_map]
    have : (PyData.bool ∘ fun _ : Nat => false) = fun _ => PyData.bool false := rfl
    rw [this, List.map_const', List.length_range]
  rw [e] at l1
  exact tst (bin (op := oNee) l1 l2 (e_neS (n := 1) (tm_list fun x hx => by
    rw [List.eq_of_mem_replicate hx]
    exact tm_bool 0 _) (by omega)))
theorem od_for (k : Nat) (o : BkOk b) (x5 x6 x7 x8 x13 x14 x15 : Option Val) : ∃ x15', sFor (iSeq (cTup (aCons (cC .none) (aCons (cB bList (aCons (cVar 12) aNil)) (aCons (cTup (aCons (cC (.int (9))) aNil)) (aCons (cTup (aCons (cC (.bool true)) aNil)) (aCons (cTup (aCons (cC (.str (Str.ofString "a"))) aNil)) aNil))))))) (tName 2 15) (bodyOD k) (EM b x5 x6 x7 x8 x13 x14 x15) = some (.ok .nx (EM b x5 x6 x7 x8 x13 x14 x15')) := by
  obtain ⟨x', hf⟩ := forL_keep (np := 2) (v := 15) (by omega) (ρ0 := EM b x5 x6 x7 x8 x13 x14 x15) (body := bodyOD k) id (odds b) (fun v hv => od_step k o v (odd_all k o v hv) x5 x6 x7 x8 x13 x14) x15
  refine ⟨x', ?_⟩
  rw [List.map_id] at hf
  have hl : cB bList (aCons (cVar 12) aNil) (EM b x5 x6 x7 x8 x13 x14 x15) = some (.ok (D (nl (nv b))) (EM b x5 x6 x7 x8 x13 x14 x15)) := b1 (var (i := 12) (d := nl (nv b)) rfl) rfl
  have ht : cTup (aCons (cC .none) (aCons (cB bList (aCons (cVar 12) aNil)) (aCons (cTup (aCons (cC (.int (9))) aNil)) (aCons (cTup (aCons (cC (.bool true)) aNil)) (aCons (cTup (aCons (cC (.str (Str.ofString "a"))) aNil)) aNil))))) (EM b x5 x6 x7 x8 x13 x14 x15) = some (.ok (D (.tuple (odds b))) (EM b x5 x6 x7 x8 x13 x14 x15)) := by
    have t1 : ∀ (d : PyData) (ρ : PP.Env), cTup (aCons (cC d) aNil) ρ = some (.ok (D (.tuple [d])) ρ) := fun d ρ => rfl
    have t0 : cTup = fun g ρ => bnd (g ρ) finTup := rfl
    conv => lhs; unfold cTup
    simp only [aCons, aNil, const, hl, t1, bnd_ok, argOk_dat, if_true]
    rfl
  unfold sFor
  rw [it_T ht, bnd_ok]
  exact hf
theorem lm_ret (k : Nat) (o : BkOk b) (x5 x6 x7 x8 x13 x14 x15 : Option Val) : cOr (cBin oEqq (cVar 12) (cLst aNil)) (cBin oIs (cCall (tab (k + 4)) "accepts_endless" (aCons (cVar 0) (aCons (cBin oIx (cVar 12) (cC (.int (0)))) (aCons (cB bTup (aCons (cVar 12) aNil)) aNil)))) (cC (.bool true))) (EM b x5 x6 x7 x8 x13 x14 x15) = some (.ok (D (.bool true)) (EM b x5 x6 x7 x8 x13 x14 x15)) := by
  have h3 := o.n3
  have e1 := bin (op := oEqq) (fa := cVar 12) (fb := cLst aNil) (ρ := EM b x5 x6 x7 x8 x13 x14 x15) (var (d := nl (nv b)) rfl) rfl (e_eqNil _)
  cases hn : nv b with
  | nil =>
    rw [hn] at e1
    have := or1 (b := true) e1 (fun h => by cases h) (g := cBin oIs (cCall (tab (k + 4)) "accepts_endless" (aCons (cVar 0) (aCons (cBin oIx (cVar 12) (cC (.int (0)))) (aCons (cB bTup (aCons (cVar 12) aNil)) aNil)))) (cC (.bool true)))
    exact this
  | cons x l =>
    have hac : acF b (nv b) = true := fix_ac (gF_fix b)
    have hc : (nv b).contains x = true := by rw [hn]; simp
    have hx : ∀ ρ : PP.Env, cVar 12 ρ = some (.ok (D (nl (nv b))) ρ) → cBin oIx (cVar 12) (cC (.int 0)) ρ = some (.ok (I (x : Int)) ρ) := fun ρ h => ixL h (const (.int 0) _) (by
      have e : iz (nv b) = .int (x : Int) :: iz l := by rw [hn]; rfl
      rw [e]
      exact atI_0)
    have hv : cVar 12 (EM b x5 x6 x7 x8 x13 x14 x15) = some (.ok (D (nl (nv b))) (EM b x5 x6 x7 x8 x13 x14 x15)) := var rfl
    have ha := t_accepts (k + 2) o x (js := nv b) (fun j hj => (restF_mem.mp hj).1) (Nat.le_trans restF_len (by omega))
    rw [hc, hac] at ha
    have e2 := bin (op := oIs) (call3 (fa := cVar 0) (ρ := EM b x5 x6 x7 x8 x13 x14 x15) (var rfl) (hx _ hv) (b1_tup hv) ha) (const (.bool true) _) (e_isB _ _)
    have := or1 e1 fun _ => e2
    rw [this]
    simp
theorem t_ends (k : Nat) (o : BkOk b) : tab (k + 5) "_law_ends" [D (bkD b), D (nl (List.range b.n))] = some (.ok (D (.bool true)) [D (bkD b), D (nl (List.range b.n))]) := by
  rw [tab__law_ends]
  obtain ⟨x5, x6, x7, h1⟩ := le_for o
  obtain ⟨L, y7, ⟨hL1, hL2⟩, h2⟩ := sub_for o x5 x6 x7 none none none
  obtain ⟨z7, z8, z14, h4⟩ := cl_for k o L hL2 x5 x6 y7 none none none
  obtain ⟨z15, h5⟩ := od_for k o x5 x6 z7 z8 (some (D (.list (L.map tl)))) z14 none
  have hbody : b__law_ends (tab (k + 4)) [some (D (bkD b)), some (D (nl (List.range b.n))), none, none, none, none, none, none, none, none, none, none, none, none, none, none] = some (.ok (.rt (D (.bool true))) (EM b x5 x6 z7 z8 (some (D (.list (L.map tl)))) z14 z15)) := by
    unfold b__law_ends
    have hp : sPar3 2 2 3 4 (cLst aNil) cNk (cC (.int (0))) [some (D (bkD b)), some (D (nl (List.range b.n))), none, none, none, none, none, none, none, none, none, none, none, none, none, none] = some (.ok .nx (EL b [] [] 0 none none none)) := rfl
    unfold bodyLE at h1
    unfold bodyCL at h4
    unfold bodyOD at h5
    rw [seq_nx hp]
    rw [seq_nx h1]
    have ht := lm_told k o x5 x6 x7
    have hs1 : ∀ (f g h : Ex) (ρ ρ1 : PP.Env), bSeq f g ρ = some (.ok .nx ρ1) → bSeq f (bSeq g h) ρ = h ρ1 := fun f g h ρ ρ1 e => by
      unfold bSeq at e ⊢
      generalize f ρ = a at e ⊢
      match a, e with
      | some (.ok .nx ρ2), e => 
        have e : g ρ2 = some (.ok .nx ρ1) := e
        show bnd (g ρ2) _ = _
        rw [e]
        rfl
      | some (.ok .bk ρ2), e => cases e
      | some (.ok .ct ρ2), e => cases e
      | some (.ok (.rt v) ρ2), e => cases e
      | none, e => cases e
    rw [hs1 _ _ _ _ _ ht]
    rw [seq_nx (tst2 (lm_if k o x5 x6 x7 none none none none))]
    have hl : sSet 2 13 (cLst (aCons (cTup aNil) aNil)) (EM b x5 x6 x7 none none none none) = some (.ok .nx (EM b x5 x6 x7 none (some (D (.list [.tuple []]))) none none)) := rfl
    rw [seq_nx hl, seq_nx h2]
    rw [seq_nx h4]
    rw [seq_nx h5]
    exact ret_d (lm_ret k o x5 x6 z7 z8 _ z14 z15)
  exact run_d rfl hbody (by simp [EM]) rfl
end
end PP.K03

end
section
set_option Elab.async false
set_option linter.all false
set_option maxRecDepth 100000
set_option maxHeartbeats 1000000
/-! K03ta: the tape, takes, lots drawn. -/
namespace PP.K03
open PySem PySem.Spec PyProof.Rows L2 PP

abbrev Tp := Int × List Int
abbrev tpV (s : Tp) : Val := .tp s.1 s.2
/-- a tape off which n more can be taken -/
structure TOk (n : Nat) (s : Tp) : Prop where
  ne : s.2 ≠ []
  nn : ∀ c ∈ s.2, 0 ≤ c
  p0 : 0 ≤ s.1
  pn : s.1 + n ≤ 1000000000000
theorem TOk.mono {n m : Nat} {s : Tp} (h : TOk n s) (hm : m ≤ n) : TOk m s := ⟨h.ne, h.nn, h.p0, by have := h.pn; omega⟩
theorem getD_nn {l : List Int} (h : ∀ c ∈ l, 0 ≤ c) (i : Nat) : 0 ≤ l.getD i 0 := by
  rw [List.getD_eq_getElem?_getD]
  cases e : l[i]? with
  | none => exact Int.le_refl _
  | some x => exact h x (List.mem_of_getElem? e)
theorem t_take (k : Nat) (b : Int) (h1 : 1 ≤ b) (h2 : b ≤ 1000) (n : Nat) (s : Tp) (h : TOk (n + 1) s) : ∃ (s' : Tp) (z : Nat), tab (k + 1) "_law_take" [tpV s, I b] = some (.ok (I (z : Int)) [tpV s', I b]) ∧ TOk n s' ∧ (z : Int) < b := by
  obtain ⟨pos, cells⟩ := s
  rw [tab__law_take]
  have hpn := h.pn
  have hp0 := h.p0
  have hne := h.ne
  have hnn := h.nn
  simp only at hpn hp0 hne hnn
  show ∃ (s' : Tp) (z : Nat), takeV pos cells b = _ ∧ _ ∧ _
  unfold takeV
  by_cases hb : b < 2
  · rw [if_pos hb]
    exact ⟨(pos, cells), 0, rfl, h.mono (Nat.le_succ n), by omega⟩
  · rw [if_neg hb]
    have hg : ¬ (cells = [] ∨ ¬ b ≤ 1000000000 ∨ pos < 0 ∨ ¬ pos ≤ 1000000000000) := by
      rintro (e | e | e | e)
      · exact hne e
      all_goals omega
    rw [if_neg hg]
    have hc0 := getD_nn hnn (pos % cells.length).toNat
    generalize hi : (pos % (cells.length : Int)).toNat = i at *
    generalize hc : cells.getD i 0 = cell at *
    by_cases hbig : 1000000000000000000 ≤ cell
    · rw [if_pos hbig]
      refine ⟨(pos, cells.set i (cell / b)), (cell % b).toNat, ?_, ⟨?_, ?_, hp0, ?_⟩, ?_⟩
      · have : ((cell % b).toNat : Int) = cell % b := Int.toNat_of_nonneg (Int.emod_nonneg _ (by omega))
        rw [this]
      · intro e
        have := congrArg List.length e
        rw [List.length_set] at this
        exact hne (List.length_eq_zero_iff.mp this)
      · intro c hcm
        rcases List.mem_or_eq_of_mem_set hcm with hcm | rfl
        · exact hnn c hcm
        · exact Int.ediv_nonneg hc0 (by omega)
      · simp only; omega
      · have : ((cell % b).toNat : Int) = cell % b := Int.toNat_of_nonneg (Int.emod_nonneg _ (by omega))
        rw [this]
        exact Int.emod_lt_of_pos _ (by omega)
    · rw [if_neg hbig, if_neg (by omega)]
      generalize hz : ((cell * 48271 + (pos + 1) * 69621) % 2147483647 * 16807 + (pos + 1) * 7919) % 1000000007 / 7 = y
      have e : ((y % b).toNat : Int) = y % b := Int.toNat_of_nonneg (Int.emod_nonneg _ (by omega))
      refine ⟨(pos + 1, cells), (y % b).toNat, by rw [e], ⟨hne, hnn, by simp only; omega, by simp only; omega⟩, ?_⟩
      rw [e]
      exact Int.emod_lt_of_pos _ (by omega)
section
variable {Φ : Phi} {f : String} {fb fc : Ev} {ρ : PP.Env} {i : Nat} {b c v : PyData} {s s' : Tp}
theorem varT (h : ρ[i]? = some (some (tpV s))) : cVar i ρ = some (.ok (.bor i) ρ) := by simp [cVar, h, tpV]
theorem resT (h : ρ[i]? = some (some (tpV s))) : res ρ (.bor i) = some (tpV s) := res_bor' h rfl
theorem callT1 (h : ρ[i]? = some (some (tpV s))) (hb : fb ρ = some (.ok (.dat b) ρ)) (hf : Φ f [tpV s, .dat b] = some (.ok (.dat v) [tpV s', .dat b])) : cCall Φ f (aCons (cVar i) (aCons fb aNil)) ρ = some (.ok (.dat v) (ρ.set i (some (tpV s')))) := by
  have hc : callV Φ f [.bor i, .dat b] ρ = some (.ok (.dat v) (wb ρ [.bor i, .dat b] [tpV s', .dat b])) := callV_ok (by simp [resT h]) rfl hf rfl rfl
  have hw : wb ρ [.bor i, .dat b] [tpV s', .dat b] = ρ.set i (some (tpV s')) := rfl
  rw [hw] at hc
  simp [cCall, aCons, aNil, varT h, hb, hc, argOk]
theorem callT2 (h : ρ[i]? = some (some (tpV s))) (hb : fb ρ = some (.ok (.dat b) ρ)) (hc : fc ρ = some (.ok (.dat c) ρ)) (hf : Φ f [tpV s, .dat b, .dat c] = some (.ok (.dat v) [tpV s', .dat b, .dat c])) : cCall Φ f (aCons (cVar i) (aCons fb (aCons fc aNil))) ρ = some (.ok (.dat v) (ρ.set i (some (tpV s')))) := by
  have hcv : callV Φ f [.bor i, .dat b, .dat c] ρ = some (.ok (.dat v) (wb ρ [.bor i, .dat b, .dat c] [tpV s', .dat b, .dat c])) := callV_ok (by simp [resT h]) rfl hf rfl rfl
  have hw : wb ρ [.bor i, .dat b, .dat c] [tpV s', .dat b, .dat c] = ρ.set i (some (tpV s')) := rfl
  rw [hw] at hcv
  simp [cCall, aCons, aNil, varT h, hb, hc, hcv, argOk]
theorem it_rng' {g : Ev} {ρ ρ' : PP.Env} {n : Nat} (h : g ρ = some (.ok (I (n : Int)) ρ')) (hn : n < 1000) : iRng (aCons g aNil) ρ = some (.ok ((List.range n).map fun i : Nat => .int (i : Int)) ρ') := by
  unfold iRng
  have : aCons g aNil ρ = some (.ok [I (n : Int)] ρ') := by simp [aCons, aNil, h]
  rw [this, bnd_ok]
  exact rng_of (inR_small hn)
theorem set_d' {np j : Nat} {g : Ev} {ρ ρ1 : PP.Env} {d : PyData} (h : g ρ = some (.ok (.dat d) ρ1)) (hi : np ≤ j) {ρ2 : PP.Env} (e : ρ1.set j (some (.dat d)) = ρ2) : sSet np j g ρ = some (.ok .nx ρ2) := by
  rw [← e]
  exact set_d h hi
end
/-! ### lots -/
def RowOk (n m : Nat) (r : List Int) : Prop := r.length = n ∧ (∀ x ∈ r, 0 ≤ x) ∧ r.sum ≤ m
theorem sum_nn {l : List Int} (h : ∀ x ∈ l, 0 ≤ x) : 0 ≤ l.sum := by
  induction l with
  | nil => exact Int.le_refl _
  | cons x l ih =>
    have := h x List.mem_cons_self
    have := ih fun y hy => h y (List.mem_cons_of_mem _ hy)
    rw [List.sum_cons]
    omega
theorem mem_sumI {l : List Int} (h : ∀ x ∈ l, 0 ≤ x) {x : Int} (hx : x ∈ l) : x ≤ l.sum := by
  induction l with
  | nil => cases hx
  | cons y l ih =>
    have h1 := h y List.mem_cons_self
    have h2 := sum_nn fun z hz => h z (List.mem_cons_of_mem _ hz)
    rw [List.sum_cons]
    rcases List.mem_cons.mp hx with rfl | hx
    · omega
    · have := ih (fun z hz => h z (List.mem_cons_of_mem _ hz)) hx
      omega
theorem RowOk.le {n m : Nat} {r : List Int} (h : RowOk n m r) {x : Int} (hx : x ∈ r) : x ≤ m := by
  have := mem_sumI h.2.1 hx
  have := h.2.2
  omega
theorem RowOk.mono {n m m' : Nat} {r : List Int} (h : RowOk n m r) (hm : m ≤ m') : RowOk n m' r := ⟨h.1, h.2.1, by have := h.2.2; omega⟩
def incR (n : Nat) (r : List Int) (z : Nat) : List Int := (List.range n).map fun j => at_ r j + if j = z then 1 else 0
theorem inc_ok {n m : Nat} {r : List Int} {z : Nat} (h1 : 1 ≤ n) (h3 : n ≤ 3) (hz : z < n) (h : RowOk n m r) : RowOk n (m + 1) (incR n r z) := by
  obtain ⟨hl, hn, hs⟩ := h
  rcases (show n = 1 ∨ n = 2 ∨ n = 3 by omega) with rfl | rfl | rfl
  · match r, hl with
    | [a], _ =>
      obtain rfl : z = 0 := by omega
      have := hn a (by simp)
      simp only [List.sum_cons, List.sum_nil] at hs
      refine ⟨rfl, fun x hx => ?_, ?_⟩
      · simp [incR, at_] at hx
        omega
      · simp [incR, at_]
        omega
  · match r, hl with
    | [a, c], _ =>
      have := hn a (by simp)
      have := hn c (by simp)
      simp only [List.sum_cons, List.sum_nil] at hs
      rcases (show z = 0 ∨ z = 1 by omega) with rfl | rfl
      · refine ⟨rfl, fun x hx => ?_, ?_⟩
        · simp [incR, at_, List.range_succ] at hx
          omega
        · simp [incR, at_, List.range_succ]
          omega
      · refine ⟨rfl, fun x hx => ?_, ?_⟩
        · simp [incR, at_, List.range_succ] at hx
          omega
        · simp [incR, at_, List.range_succ]
          omega
  · match r, hl with
    | [a, c, d], _ =>
      have := hn a (by simp)
      have := hn c (by simp)
      have := hn d (by simp)
      simp only [List.sum_cons, List.sum_nil] at hs
      rcases (show z = 0 ∨ z = 1 ∨ z = 2 by omega) with rfl | rfl | rfl
      · refine ⟨rfl, fun x hx => ?_, ?_⟩
        · simp [incR, at_, List.range_succ] at hx
          omega
        · simp [incR, at_, List.range_succ]
          omega
      · refine ⟨rfl, fun x hx => ?_, ?_⟩
        · simp [incR, at_, List.range_succ] at hx
          omega
        · simp [incR, at_, List.range_succ]
          omega
      · refine ⟨rfl, fun x hx => ?_, ?_⟩
        · simp [incR, at_, List.range_succ] at hx
          omega
        · simp [incR, at_, List.range_succ]
          omega
theorem zero_ok (n m : Nat) : RowOk n m (List.replicate n 0) := by
  refine ⟨List.length_replicate, fun x hx => by rw [List.eq_of_mem_replicate hx]; exact Int.le_refl _, ?_⟩
  have : ∀ n : Nat, (List.replicate n (0 : Int)).sum = 0 := fun n => by
    induction n with
    | zero => rfl
    | succ n ih => rw [List.replicate_succ, List.sum_cons, ih]; rfl
  rw [this]
  omega
def EV (s : Tp) (n m : Nat) (r : List Int) (x4 x5 x6 : Option Val) : PP.Env := [some (tpV s), some (I (n : Int)), some (I (m : Int)), some (D (.list (r.map .int))), x4, x5, x6]
noncomputable def bodyLT (k : Nat) : Ex := (bSeq (sSet 3 5 (cCall (tab (k + 1)) "_law_take" (aCons (cVar 0) (aCons (cVar 1) aNil)))) (sSet 3 3 (cLc [6] (iRng (aCons (cVar 1) aNil)) (tName 0 6) cYes (cBin oAdd (cBin oIx (cVar 3) (cVar 6)) (cB bInt (aCons (cBin oEqq (cVar 6) (cVar 5)) aNil))))))
theorem lot_step (k : Nat) {n m : Nat} (h1 : 1 ≤ n) (h3 : n ≤ 3) {N : Nat} {s : Tp} (h : TOk (N + 1) s) {r : List Int} {t : Nat} (hr : RowOk n t r) (x4 x5 x6 : Option Val) : ∃ s' r' x5', bodyLT k (EV s n m r x4 x5 x6) = some (.ok .nx (EV s' n m r' x4 x5' x6)) ∧ TOk N s' ∧ RowOk n (t + 1) r' := by
  obtain ⟨s', z, h4, h5, h6⟩ := t_take k (n : Int) (by omega) (by omega) N s h
  refine ⟨s', incR n r z, some (I (z : Int)), ?_, h5, inc_ok h1 h3 (by omega) hr⟩
  have hc := callT1 (Φ := tab (k + 1)) (f := "_law_take") (i := 0) (ρ := EV s n m r x4 x5 x6) (fb := cVar 1) rfl (var (d := .int (n : Int)) rfl) h4
  have hs := set_d (np := 3) (i := 5) hc (by omega)
  have hl := lc_mi (v := 6) (e := (cBin oAdd (cBin oIx (cVar 3) (cVar 6)) (cB bInt (aCons (cBin oEqq (cVar 6) (cVar 5)) aNil)))) (ρ := EV s' n m r x4 (some (I (z : Int))) x6) (List.range n) (fun i : Nat => .int (i : Int)) (fun j => at_ r j + if j = z then 1 else 0) (it_rng (f := cVar 1) (n := n) (var rfl) (by omega)) (by simp [EV]) (by simp; omega) (fun j hj => by
    have hj' := List.mem_range.mp hj
    have hrl := hr.1
    have a1 := ixL (fa := cVar 3) (fb := cVar 6) (ρ := (wipeE (EV s' n m r x4 (some (I (z : Int))) x6) [6]).set 6 (some (.dat (.int (j : Int))))) (var (d := .list (r.map .int)) rfl) (var (d := .int (j : Int)) rfl) (ix_row (show j < r.length by omega))
    have a2 := b1 (bin (op := oEqq) (fa := cVar 6) (fb := cVar 5) (ρ := (wipeE (EV s' n m r x4 (some (I (z : Int))) x6) [6]).set 6 (some (.dat (.int (j : Int))))) (var (d := .int (j : Int)) rfl) (var (d := .int (z : Int)) rfl) (e_eqI _ _)) (e_intB _)
    have e : (if ((j : Int) == (z : Int)) = true then (1 : Int) else 0) = if j = z then 1 else 0 := by
      by_cases hjz : j = z
      · subst hjz; simp
      · have : ((j : Int) == (z : Int)) = false := by rw [beq_eq_false_iff_ne]; omega
        simp [this, hjz]
    rw [e] at a2
    exact bin a1 a2 (e_addI _ _))
  unfold bodyLT
  rw [seq_nx hs]
  exact set_d hl (by omega)
theorem lot_loop (k : Nat) {n m : Nat} (h1 : 1 ≤ n) (h3 : n ≤ 3) (N : Nat) (x6 : Option Val) : ∀ (xs : List Nat) (s : Tp) (r : List Int) (t : Nat) (x4 x5 : Option Val), TOk (N + xs.length) s → RowOk n t r → ∃ s' r' x4' x5', forL (tName 3 4) (bodyLT k) (iz xs) (EV s n m r x4 x5 x6) = some (.ok .nx (EV s' n m r' x4' x5' x6)) ∧ TOk N s' ∧ RowOk n (t + xs.length) r'
  | [], s, r, t, x4, x5, h, hr => ⟨s, r, x4, x5, rfl, h, hr⟩
  | x :: xs, s, r, t, x4, x5, h, hr => by
    rw [List.length_cons] at h
    obtain ⟨s1, r1, y5, g1, g2, g3⟩ := lot_step k (m := m) h1 h3 (N := N + xs.length) (s := s) h hr (some (I (x : Int))) x5 x6
    obtain ⟨s2, r2, z4, z5, i1, i2, i3⟩ := lot_loop k h1 h3 N x6 xs s1 r1 (t + 1) (some (I (x : Int))) y5 g2 g3
    refine ⟨s2, r2, z4, z5, ?_, i2, ?_⟩
    · have e : iz (x :: xs) = .int (x : Int) :: iz xs := rfl
      have ht : tName 3 4 (.int (x : Int)) (EV s n m r x4 x5 x6) = some (EV s n m r (some (I (x : Int))) x5 x6) := rfl
      rw [e]
      unfold forL
      rw [ht]
      simp only
      rw [g1, bnd_ok]
      exact i1
    · rw [List.length_cons]
      have : t + (xs.length + 1) = t + 1 + xs.length := by omega
      rw [this]
      exact i3
theorem t_dlot (k : Nat) {n m : Nat} (h1 : 1 ≤ n) (h3 : n ≤ 3) (hm : m ≤ 4) (N : Nat) (s : Tp) (h : TOk (N + 5) s) : ∃ s' r, tab (k + 2) "_law_lot" [tpV s, I (n : Int), I (m : Int)] = some (.ok (D (rowD r)) [tpV s', I (n : Int), I (m : Int)]) ∧ TOk N s' ∧ RowOk n m r := by
  obtain ⟨s1, z, a1, a2, a3⟩ := t_take k ((m : Int) + 1) (by omega) (by omega) (N + 4) s h
  obtain ⟨s2, r, x4, x5, b1', b2, b3⟩ := lot_loop k (m := m) h1 h3 N none (List.range z) s1 (List.replicate n 0) 0 none none (a2.mono (by rw [List.length_range]; omega)) (zero_ok n 0)
  rw [List.length_range, Nat.zero_add] at b3
  refine ⟨s2, r, ?_, b2, b3.mono (by omega)⟩
  rw [tab__law_lot]
  have hr0 : sSet 3 3 (cBin oMul (cLst (aCons (cC (.int (0))) aNil)) (cVar 1)) [some (tpV s), some (I (n : Int)), some (I (m : Int)), none, none, none, none] = some (.ok .nx (EV s n m (List.replicate n 0) none none none)) := by
    have := bin (op := oMul) (fa := cLst (aCons (cC (.int (0))) aNil)) (fb := cVar 1) (ρ := [some (tpV s), some (I (n : Int)), some (I (m : Int)), none, none, none, none]) (a := .list [.int 0]) rfl (var (d := .int (n : Int)) rfl) (e_repL (by omega) _)
    refine set_d' this (by omega) ?_
    unfold EV
    rw [List.map_replicate]
    rfl
  have hc := callT1 (Φ := tab (k + 1)) (f := "_law_take") (i := 0) (ρ := EV s n m (List.replicate n 0) none none none) (fb := (cBin oAdd (cVar 2) (cC (.int (1))))) rfl (bin (op := oAdd) (var (i := 2) (d := .int (m : Int)) rfl) (const (.int 1) _) (e_addI _ _)) a1
  have hf : sFor (iRng (aCons (cCall (tab (k + 1)) "_law_take" (aCons (cVar 0) (aCons (cBin oAdd (cVar 2) (cC (.int (1)))) aNil))) aNil)) (tName 3 4) (bodyLT k) (EV s n m (List.replicate n 0) none none none) = some (.ok .nx (EV s2 n m r x4 x5 none)) := by
    unfold sFor
    rw [it_rng' hc (by omega), bnd_ok]
    exact b1'
  have hbody : b__law_lot (tab (k + 1)) [some (tpV s), some (I (n : Int)), some (I (m : Int)), none, none, none, none] = some (.ok (.rt (D (rowD r))) (EV s2 n m r x4 x5 none)) := by
    unfold b__law_lot
    unfold bodyLT at hf
    rw [seq_nx hr0, seq_nx hf]
    exact ret_d (b1_tup (var (i := 3) (d := .list (r.map .int)) rfl))
  exact run_g rfl hbody (by simp [EV, tpV])
end PP.K03

end
section
set_option Elab.async false
set_option linter.all false
set_option maxRecDepth 100000
set_option maxHeartbeats 1000000
/-! K03tb: litters ordered. -/
namespace PP.K03
open PySem PySem.Spec PyProof.Rows L2 PP
open PySem.W (dataLt dataLe alike alikeAll AllAlike)

theorem eqv_row : ∀ a b : List Int, PyData.eqv (rowD a) (rowD b) = decide (a = b)
  | [], [] => rfl
  | [], y :: b => rfl
  | x :: a, [] => rfl
  | x :: a, y :: b => by
    have ih := eqv_row a b
    unfold rowD at ih ⊢
    rw [PyData.eqv] at ih ⊢
    rw [List.map_cons, List.map_cons, PyData.eqvAll, ih, eqv_int, Bool.eq_iff_iff]
    simp
theorem rowD_inj {a b : List Int} (h : rowD a = rowD b) : a = b := by
  have := eqv_row a b
  rw [h, eqv_row b b, decide_eq_true rfl] at this
  exact of_decide_eq_true this.symm
theorem any_row (L : List (List Int)) (r : List Int) : ((L.map rowD).any fun z => PyData.eqv z (rowD r)) = L.contains r := by
  induction L with
  | nil => rfl
  | cons x l ih =>
    rw [List.map_cons, List.any_cons, ih, eqv_row, List.contains_cons]
    congr 1
    rw [Bool.eq_iff_iff]
    simp only [beq_iff_eq, decide_eq_true_eq]
    exact eq_comm
theorem dA_rows : ∀ L : List (List Int), PyData.depthAll (L.map rowD) ≤ 1
  | L => depthAll_le _ fun x hx => by
    obtain ⟨r, _, rfl⟩ := List.mem_map.mp hx
    rw [rowD_depth]
    omega
theorem e_inRow (L : List (List Int)) (r : List Int) : oIn (D (rowD r)) (D (.list (L.map rowD))) = some (.bool (L.contains r)) := by
  have := dA_rows L
  have h2 : min (PyData.depthAll (L.map rowD)) (rowD r).depth ≤ 100 := by omega
  have h3 : min (rowD r).depth (PyData.depthAll (L.map rowD)) ≤ 100 := by omega
  have ha := any_row L r
  generalize L.map rowD = M at *
  simp [oIn, orO, oInS, dOf, dptA, h2, h3, ha]
theorem e_ninRow (L : List (List Int)) (r : List Int) : oNotIn (D (rowD r)) (D (.list (L.map rowD))) = some (.bool (!L.contains r)) := by
  have := dA_rows L
  have h2 : min (PyData.depthAll (L.map rowD)) (rowD r).depth ≤ 100 := by omega
  have h3 : min (rowD r).depth (PyData.depthAll (L.map rowD)) ≤ 100 := by omega
  have ha := any_row L r
  generalize L.map rowD = M at *
  simp [oNotIn, orO, oInS, dOf, dptA, h2, h3, ha]
theorem map_getD {α β : Type} (d : α) (g : α → β) : ∀ l : List α, (List.range l.length).map (fun k => g (l.getD k d)) = l.map g := fun l => by
  refine List.ext_getElem (by simp) fun i h1 h2 => ?_
  rw [List.getElem_map, List.getElem_map, List.getElem_range, List.getD_eq_getElem?_getD, List.getElem?_eq_getElem (by simpa using h2)]
  rfl
/-! ### pairs -/
abbrev Pr := List Int × Nat
def encP (p : Pr) : PyData := .tuple [rowD p.1, .int (p.2 : Int)]
def leP (a b : Pr) : Bool := dataLe false (fun d : PyData => d) (encP a) (encP b)
def srtP (P : List Pr) : List Pr := P.mergeSort leP
theorem sort_encP (P : List Pr) : sortD (P.map encP) = (srtP P).map encP := by
  unfold sortD srtP
  exact (List.map_mergeSort (f := encP) (r := leP) (s := dataLe false fun d : PyData => d) (l := P) fun a _ b _ => rfl).symm
theorem alikeP (a b : Pr) : alike (encP a) (encP b) = true := by
  unfold encP
  rw [alike, alikeAll, alikeAll, rowD_alike]
  rfl
theorem depthP (a : Pr) : (encP a).depth ≤ 2 := by
  unfold encP
  rw [PyData.depth]
  have := depthAll_le (n := 1) [rowD a.1, PyData.int (a.2 : Int)] (fun x hx => by
    simp only [List.mem_cons, List.not_mem_nil, or_false] at hx
    rcases hx with rfl | rfl
    · rw [rowD_depth]; omega
    · simp [PyData.depth])
  omega
theorem canSort_P {P : List Pr} (h : P.length ≤ 1000000) : canSort (P.map encP) = true := by
  unfold canSort
  have hm : ∀ d ∈ P.map encP, ∃ i : Pr, d = encP i := fun d hd => by
    obtain ⟨i, _, rfl⟩ := List.mem_map.mp hd
    exact ⟨_, rfl⟩
  simp only [Bool.and_eq_true, Bool.or_eq_true, List.all_eq_true]
  refine ⟨⟨⟨fun d hd e he => ?_, .inr fun d hd => ?_⟩, fun d hd => ?_⟩, ?_⟩
  · obtain ⟨i, rfl⟩ := hm d hd
    obtain ⟨j, rfl⟩ := hm e he
    exact alikeP i j
  · obtain ⟨i, rfl⟩ := hm d hd
    rfl
  · obtain ⟨i, rfl⟩ := hm d hd
    exact decide_eq_true (by have := depthP i; omega)
  · rw [List.length_map]
    exact decide_eq_true h
theorem le_row {a b : Pr} (h : leP a b = true) (hne : a.1 ≠ b.1) : dataLt (rowD a.1) (rowD b.1) = true := by
  unfold leP at h
  rw [PySem.W.dataLe_eq] at h
  simp only [cond_false, Bool.not_eq_true'] at h
  have e : PyData.eqv (rowD b.1) (rowD a.1) = false := by
    rw [eqv_row]
    exact decide_eq_false fun z => hne z.symm
  unfold encP at h
  rw [PySem.W.dataLt_pair (rowD_alike _ _) rfl, e] at h
  simp only [Bool.false_eq_true, if_false] at h
  cases h2 : dataLt (rowD a.1) (rowD b.1) with
  | true => rfl
  | false =>
    refine absurd (rowD_inj (dataLe_anti (rowD_alike a.1 b.1) ?_ ?_)) hne
    · rw [PySem.W.dataLe_eq]
      simp only [cond_false, h, Bool.not_false]
    · rw [PySem.W.dataLe_eq]
      simp only [cond_false, h2, Bool.not_false]
theorem leP_trans : ∀ a b c : Pr, leP a b = true → leP b c = true → leP a c = true := fun a b c =>
  (PySem.W.sortLe_total (listOrd itemOrd) false PySem.W.keyToks).trans (encP a) (encP b) (encP c)
theorem leP_total : ∀ a b : Pr, (leP a b || leP b a) = true := fun a b => by
  rw [Bool.or_eq_true]
  exact (PySem.W.sortLe_total (listOrd itemOrd) false PySem.W.keyToks).total (encP a) (encP b)
theorem srtP_perm (P : List Pr) : (srtP P).Perm P := List.mergeSort_perm P _
theorem srtP_asc {P : List Pr} (nd : (P.map (·.1)).Nodup) : (srtP P).Pairwise fun r q => dataLt (rowD r.1) (rowD q.1) = true := by
  have h1 : (srtP P).Pairwise fun a b => leP a b = true := List.pairwise_mergeSort leP_trans leP_total P
  have h2 : ((srtP P).map (·.1)).Nodup := ((srtP_perm P).map _).nodup_iff.mpr nd
  have h3 : (srtP P).Pairwise fun a b => a.1 ≠ b.1 := List.pairwise_map.mp h2
  exact (h1.and h3).imp fun ⟨a, c⟩ => le_row a c
/-- what is drawn for a litter -/
structure PrOk (n : Nat) (P : List Pr) : Prop where
  ne : P ≠ []
  len : P.length ≤ 5
  lot : ∀ r ∈ P, RowOk n 3 r.1
  load : ∀ r ∈ P, 0 < r.2 ∧ r.2 ≤ 5
  nd : (P.map (·.1)).Nodup
theorem sum_le : ∀ (l : List Nat), (∀ x ∈ l, x ≤ 5) → l.sum ≤ 5 * l.length
  | [], _ => Nat.le_refl _
  | x :: l, h => by
    have h1 := h x List.mem_cons_self
    have h2 := sum_le l fun y hy => h y (List.mem_cons_of_mem _ hy)
    rw [List.sum_cons, List.length_cons]
    omega
theorem litOf {n : Nat} {P : List Pr} (h : PrOk n P) : LitOk n (srtP P) ∧ sumL (srtP P) = (P.map (·.2)).sum ∧ 0 < (P.map (·.2)).sum ∧ (P.map (·.2)).sum ≤ 25 := by
  have p := srtP_perm P
  have hs : sumL (srtP P) = (P.map (·.2)).sum := by
    unfold sumL
    exact (p.map _).sum_nat
  have h25 : (P.map (·.2)).sum ≤ 25 := by
    have := sum_le (P.map (·.2)) fun x hx => by
      obtain ⟨r, hr, rfl⟩ := List.mem_map.mp hx
      exact (h.load r hr).2
    rw [List.length_map] at this
    have := h.len
    omega
  have hpos : 0 < (P.map (·.2)).sum := by
    obtain ⟨r, P', rfl⟩ := List.exists_cons_of_ne_nil h.ne
    have := (h.load r List.mem_cons_self).1
    rw [List.map_cons, List.sum_cons]
    omega
  refine ⟨⟨?_, ?_, ?_, ?_, ?_, srtP_asc h.nd⟩, hs, hpos, h25⟩
  · intro e
    have := p.length_eq
    rw [e] at this
    exact h.ne (List.length_eq_zero_iff.mp this.symm)
  · rw [p.length_eq]
    have := h.len
    omega
  · intro r hr
    obtain ⟨a1, a2, a3⟩ := h.lot r (p.mem_iff.mp hr)
    refine ⟨a1, fun x hx => ⟨a2 x hx, ?_⟩, by omega⟩
    have := (h.lot r (p.mem_iff.mp hr)).le hx
    omega
  · exact fun r hr => (h.load r (p.mem_iff.mp hr)).1
  · rw [hs]
    omega
theorem t_ordered (k : Nat) {n : Nat} {P : List Pr} (h : PrOk n P) : tab (k + 2) "_law_ordered" [D (.list ((P.map (·.1)).map rowD)), D (nl (P.map (·.2)))] = some (.ok (D (litD (srtP P))) [D (.list ((P.map (·.1)).map rowD)), D (nl (P.map (·.2)))]) := by
  rw [tab__law_ordered]
  obtain ⟨lo, hS, hpos, h25⟩ := litOf h
  have hlen := h.len
  have e0 : (P.map (·.1)).map rowD = P.map fun p => rowD p.1 := by rw [List.map_map]; rfl
  have e1 : nl (P.map (·.2)) = .list (P.map fun p => .int (p.2 : Int)) := by unfold nl iz; rw [List.map_map]; rfl
  generalize hA : (PyData.list ((P.map (·.1)).map rowD)) = A
  generalize hB : nl (P.map (·.2)) = B
  have hA' : A = .list (P.map fun p => rowD p.1) := by rw [← hA, e0]
  have hB' : B = .list (P.map fun p => .int (p.2 : Int)) := by rw [← hB, e1]
  have vA : ∀ {ρ : PP.Env}, ρ[0]? = some (some (D A)) → cVar 0 ρ = some (.ok (D (.list (P.map fun p => rowD p.1))) ρ) := fun {ρ} z => by rw [← hA']; exact var z
  have vB : ∀ {ρ : PP.Env}, ρ[1]? = some (some (D B)) → cVar 1 ρ = some (.ok (D (.list (P.map fun p => .int (p.2 : Int)))) ρ) := fun {ρ} z => by rw [← hB']; exact var z
  have hn := b1_len (vA (ρ := [some (D A), some (D B), none, none, none, none]) rfl)
  rw [List.length_map] at hn
  have hl := lc_m (v := 3) (e := (cTup (aCons (cBin oIx (cVar 0) (cVar 3)) (aCons (cBin oIx (cVar 1) (cVar 3)) aNil)))) (ρ := [some (D A), some (D B), none, none, none, none]) (List.range P.length) (fun i : Nat => .int (i : Int)) (fun k => encP (P.getD k ([], 0))) (it_rng hn (by omega)) (by simp) (by simp; omega) (fun j hj => by
    have hj' := List.mem_range.mp hj
    have ex : P[j]? = some (P.getD j ([], 0)) := by
      rw [List.getD_eq_getElem?_getD, List.getElem?_eq_getElem hj']
      rfl
    have a1 := ixL (vA (ρ := (wipeE [some (D A), some (D B), none, none, none, none] [3]).set 3 (some (.dat (.int (j : Int))))) rfl) (var (i := 3) (d := .int (j : Int)) rfl) (atI_nat (n := j) (x := rowD (P.getD j ([], 0)).1) (by rw [List.getElem?_map, ex]; rfl))
    have a2 := ixL (vB (ρ := (wipeE [some (D A), some (D B), none, none, none, none] [3]).set 3 (some (.dat (.int (j : Int))))) rfl) (var (i := 3) (d := .int (j : Int)) rfl) (atI_nat (n := j) (x := .int ((P.getD j ([], 0)).2 : Int)) (by rw [List.getElem?_map, ex]; rfl))
    show cTup _ _ = _
    simp only [cTup, aCons, aNil, a1, a2, bnd_ok, argOk_dat, if_true]
    rfl)
  rw [map_getD ([], 0) encP P] at hl
  have hsrt : cB (bSorted false) (aCons (cLc [3] (iRng (aCons (cB bLen (aCons (cVar 0) aNil)) aNil)) (tName 0 3) cYes (cTup (aCons (cBin oIx (cVar 0) (cVar 3)) (aCons (cBin oIx (cVar 1) (cVar 3)) aNil)))) aNil) [some (D A), some (D B), none, none, none, none] = some (.ok (D (.list ((srtP P).map encP))) [some (D A), some (D B), none, none, none, none]) := b1 hl (by
    unfold bSorted orB
    have : bSort false [D (.list (P.map encP))] = some (D (.list ((srtP P).map encP))) := by
      unfold bSort
      simp only [lOf, canSort_P (show P.length ≤ 1000000 by omega), if_true, sort_encP, asL, Bool.false_eq_true, if_false]
    rw [this])
  have hpm := lc_pm (v := 4) (u := 5) (e := (cTup (aCons (cVar 4) (aCons (cCall (tab (k + 1)) "_law_fr" (aCons (cVar 5) (aCons (cB bSum (aCons (cVar 1) aNil)) aNil))) aNil)))) (ρ := [some (D A), some (D B), some (D (.list ((srtP P).map encP))), none, none, none]) (srtP P) (fun p => rowD p.1) (fun p => .int (p.2 : Int)) (rwD (sumL (srtP P))) (it_L (f := cVar 2) (var rfl)) (by simp) (by simp) (by rw [(srtP_perm P).length_eq]; omega) (fun p hp => by
    have hld := h.load p ((srtP_perm P).mem_iff.mp hp)
    have hsum := b1_sum (ns := P.map fun p => (p.2 : Int)) (f := cVar 1) (ρ := ((wipeE [some (D A), some (D B), some (D (.list ((srtP P).map encP))), none, none, none] [4, 5]).set 4 (some (.dat (rowD p.1)))).set 5 (some (.dat (.int (p.2 : Int))))) (by rw [List.map_map]; exact vB rfl)
    have es : (P.map fun p => (p.2 : Int)).sum = ((sumL (srtP P) : Nat) : Int) := by
      rw [hS, ← sum_cast, List.map_map]
      rfl
    rw [es] at hsum
    have hc := call2 (fa := cVar 5) (var (i := 5) (d := .int (p.2 : Int)) rfl) hsum (t_fr k (p.2 : Int) ((sumL (srtP P) : Nat) : Int) (by omega) (by omega) (by have : ((p.2 : Int)).natAbs = p.2 := Int.natAbs_natCast _; rw [this]; exact Nat.lt_of_le_of_lt hld.2 (by decide)))
    have hv4 : cVar 4 (((wipeE [some (D A), some (D B), some (D (.list ((srtP P).map encP))), none, none, none] [4, 5]).set 4 (some (.dat (rowD p.1)))).set 5 (some (.dat (.int (p.2 : Int))))) = some (.ok (D (rowD p.1)) (((wipeE [some (D A), some (D B), some (D (.list ((srtP P).map encP))), none, none, none] [4, 5]).set 4 (some (.dat (rowD p.1)))).set 5 (some (.dat (.int (p.2 : Int)))))) := var rfl
    show cTup _ _ = _
    simp only [cTup, aCons, aNil, hv4, hc, bnd_ok, argOk_dat, if_true]
    rfl)
  have hbody : b__law_ordered (tab (k + 1)) [some (D A), some (D B), none, none, none, none] = some (.ok (.rt (D (litD (srtP P)))) [some (D A), some (D B), some (D (.list ((srtP P).map encP))), none, none, none]) := by
    unfold b__law_ordered
    rw [seq_nx (set_d hsrt (by omega))]
    exact ret_d (b1_tup hpm)
  exact run_d rfl hbody (by simp) rfl
end PP.K03

end
section
set_option Elab.async false
set_option linter.all false
set_option maxRecDepth 100000
set_option maxHeartbeats 1000000
/-! K03tc: litters drawn. -/
namespace PP.K03
open PySem PySem.Spec PyProof.Rows L2 PP

section
variable {ρ ρ1 ρ2 : PP.Env} {a b d : PyData}
theorem bin2 {op : Op2} {fa fb : Ev} (h1 : fa ρ = some (.ok (.dat a) ρ1)) (h2 : fb ρ1 = some (.ok (.dat b) ρ2)) (ho : op (.dat a) (.dat b) = some d) : cBin op fa fb ρ = some (.ok (.dat d) ρ2) := by
  simp [cBin, h1, h2, fin2, ho]
theorem tst' {f : Ev} {c : Bool} (h : f ρ = some (.ok (.dat (.bool c)) ρ1)) : cTst f ρ = some (.ok c ρ1) := by simp [cTst, h, asB]
theorem andB' {f g : EvB} {x y : Bool} (h1 : f ρ = some (.ok x ρ1)) (h2 : x = true → g ρ1 = some (.ok y ρ1)) : cAndB f g ρ = some (.ok (x && y) ρ1) := by
  cases x with
  | false => simp [cAndB, h1]
  | true => simp [cAndB, h1, h2 rfl]
theorem if_no' {c : EvB} {f g : Ex} (h : c ρ = some (.ok false ρ1)) : sIf c f g ρ = g ρ1 := by simp [sIf, h]
theorem if_yes' {c : EvB} {f g : Ex} (h : c ρ = some (.ok true ρ1)) : sIf c f g ρ = f ρ1 := by simp [sIf, h]
theorem ife_yes {c : EvB} {f g : Ev} (h : c ρ = some (.ok true ρ1)) : cIfE c f g ρ = f ρ1 := by simp [cIfE, h]
theorem ife_no {c : EvB} {f g : Ev} (h : c ρ = some (.ok false ρ1)) : cIfE c f g ρ = g ρ1 := by simp [cIfE, h]
theorem lst1 {f : Ev} (h : f ρ = some (.ok (.dat a) ρ)) : cLst (aCons f aNil) ρ = some (.ok (.dat (.list [a])) ρ) := by
  unfold cLst
  rw [a1_ok h, bnd_ok]
  rfl
theorem tup1 {f : Ev} (h : f ρ = some (.ok (.dat a) ρ)) : cTup (aCons f aNil) ρ = some (.ok (.dat (.tuple [a])) ρ) := by
  unfold cTup
  rw [a1_ok h, bnd_ok]
  rfl
theorem tup2 {f g : Ev} (h : f ρ = some (.ok (.dat a) ρ)) (h2 : g ρ = some (.ok (.dat b) ρ)) : cTup (aCons f (aCons g aNil)) ρ = some (.ok (.dat (.tuple [a, b])) ρ) := by
  simp [cTup, aCons, aNil, h, h2, finTup, okLen]
end
/-- a comprehension whose turns change a state -/
theorem lcM_st {St : Type} {v : Nat} {e : Ev} (E : St → PP.Env) (Inv : Nat → St → Prop) (R : PyData → Prop) (hv : ∀ s s', (E s)[v]? = (E s')[v]?) (hl : ∀ s, v < (E s).length) : ∀ (ds : List PyData), (∀ d ∈ ds, ∀ n s, Inv (n + 1) s → ∃ s' y, e ((wipeE (E s) [v]).set v (some (.dat d))) = some (.ok (.dat y) ((wipeE (E s') [v]).set v (some (.dat d)))) ∧ Inv n s' ∧ R y) → ∀ s, Inv ds.length s → ∃ s' ys, lcM [v] (tName 0 v) cYes e ds (E s) = some (ys, E s') ∧ Inv 0 s' ∧ ys.length = ds.length ∧ ∀ y ∈ ys, R y
  | [], _, s, h => ⟨s, [], rfl, h, rfl, fun _ h => nomatch h⟩
  | d :: ds, H, s, h => by
    obtain ⟨s1, y, h1, h2, h3⟩ := H d List.mem_cons_self ds.length s h
    obtain ⟨s2, ys, i1, i2, i3, i4⟩ := lcM_st (e := e) E Inv R hv hl ds (fun x hx => H x (List.mem_cons_of_mem _ hx)) s1 h2
    refine ⟨s2, y :: ys, ?_, i2, by rw [List.length_cons, List.length_cons, i3], fun z hz => ?_⟩
    · unfold lcM
      have ht : tName 0 v d (wipeE (E s) [v]) = some ((wipeE (E s) [v]).set v (some (.dat d))) := by simp [tName, setV, setOk]
      have hs : lcStep cYes e ((wipeE (E s) [v]).set v (some (.dat d))) = some (some y, (wipeE (E s1) [v]).set v (some (.dat d))) := by
        have hy : ∀ ρ, cYes ρ = some (.ok true ρ) := fun _ => rfl
        unfold lcStep
        rw [hy]
        simp only [h1]
      have hr : rest (E s) ((wipeE (E s1) [v]).set v (some (.dat d))) [v] = E s1 := by
        have h0 := rest_self (ρ := E s1) (v := v) (o := some (.dat d)) (hl s1)
        have ha : atE (E s) v = atE (E s1) v := by
          unfold atE
          rw [hv s s1]
        simp only [rest] at h0 ⊢
        rw [ha]
        exact h0
      rw [ht]
      simp only [hs, hr, i1]
      rfl
    · rcases List.mem_cons.mp hz with rfl | hz
      · exact h3
      · exact i4 z hz
theorem lc_st {St : Type} {v : Nat} {it : EvI} {e : Ev} (E : St → PP.Env) (Inv : Nat → St → Prop) (R : PyData → Prop) (hv : ∀ s s', (E s)[v]? = (E s')[v]?) (hl : ∀ s, v < (E s).length) (ds : List PyData) (hd : ds.length ≤ 1000000) (H : ∀ d ∈ ds, ∀ n s, Inv (n + 1) s → ∃ s' y, e ((wipeE (E s) [v]).set v (some (.dat d))) = some (.ok (.dat y) ((wipeE (E s') [v]).set v (some (.dat d)))) ∧ Inv n s' ∧ R y) (s : St) (hi : it (E s) = some (.ok ds (E s))) (h : Inv ds.length s) : ∃ s' ys, cLc [v] it (tName 0 v) cYes e (E s) = some (.ok (.dat (.list ys)) (E s')) ∧ Inv 0 s' ∧ ys.length = ds.length ∧ ∀ y ∈ ys, R y := by
  obtain ⟨s', ys, h1, h2, h3, h4⟩ := lcM_st (e := e) E Inv R hv hl ds H s h
  refine ⟨s', ys, ?_, h2, h3, h4⟩
  unfold cLc
  rw [hi, bnd_ok, h1]
  have : ys.length ≤ 1000000 := by omega
  simp only [finLc, okLen, this, decide_true, if_true]
theorem nats_of : ∀ (ys : List PyData), (∀ y ∈ ys, ∃ w : Nat, y = .int (w : Int) ∧ 0 < w ∧ w ≤ 5) → ∃ W : List Nat, ys = iz W ∧ ∀ w ∈ W, 0 < w ∧ w ≤ 5
  | [], _ => ⟨[], rfl, fun _ h => nomatch h⟩
  | y :: ys, h => by
    obtain ⟨w, rfl, h1⟩ := h y List.mem_cons_self
    obtain ⟨W, rfl, h2⟩ := nats_of ys fun z hz => h z (List.mem_cons_of_mem _ hz)
    refine ⟨w :: W, rfl, fun x hx => ?_⟩
    rcases List.mem_cons.mp hx with rfl | hx
    · exact h1
    · exact h2 x hx
/-! ### litters -/
def EW (s : Tp) (n : Nat) (L : List (List Int)) (x4 x5 x6 : Option Val) : PP.Env := [some (tpV s), some (I (n : Int)), some (I 3), some (D (.list (L.map rowD))), x4, x5, x6]
structure LsOk (n : Nat) (L : List (List Int)) : Prop where
  nd : L.Nodup
  ok : ∀ r ∈ L, RowOk n 3 r
theorem LsOk.add {n : Nat} {L : List (List Int)} (h : LsOk n L) {r : List Int} (hr : RowOk n 3 r) (hc : L.contains r = false) : LsOk n (L ++ [r]) := by
  refine ⟨List.nodup_append.mpr ⟨h.nd, by simp, fun x hx y hy => ?_⟩, fun x hx => ?_⟩
  · rw [List.mem_singleton.mp hy]
    rintro rfl
    rw [List.contains_iff_mem.mpr hx] at hc
    cases hc
  · rcases List.mem_append.mp hx with hx | hx
    · exact h.ok x hx
    · rw [List.mem_singleton.mp hx]
      exact hr
noncomputable def bodyLI (k : Nat) : Ex := (bSeq (sSet 3 5 (cCall (tab (k + 2)) "_law_lot" (aCons (cVar 0) (aCons (cVar 1) (aCons (cVar 2) aNil))))) (sSet 3 3 (cIfE (cTst (cBin oIn (cVar 5) (cVar 3))) (cVar 3) (cBin oAdd (cVar 3) (cLst (aCons (cVar 5) aNil))))))
theorem li_step (k : Nat) {n : Nat} (h1 : 1 ≤ n) (h3 : n ≤ 3) {N : Nat} {s : Tp} (h : TOk (N + 5) s) {L : List (List Int)} (hL : LsOk n L) (hl : L.length ≤ 10) (x4 x5 x6 : Option Val) : ∃ s' L' x5', bodyLI k (EW s n L x4 x5 x6) = some (.ok .nx (EW s' n L' x4 x5' x6)) ∧ TOk N s' ∧ LsOk n L' ∧ L'.length ≤ L.length + 1 ∧ L' ≠ [] := by
  obtain ⟨s', r, a1, a2, a3⟩ := t_dlot k (n := n) (m := 3) h1 h3 (by omega) N s h
  have hc := callT2 (Φ := tab (k + 2)) (f := "_law_lot") (i := 0) (ρ := EW s n L x4 x5 x6) (fb := cVar 1) (fc := cVar 2) rfl (var (d := .int (n : Int)) rfl) (var (d := .int ((3 : Nat) : Int)) rfl) a1
  have hs := set_d (np := 3) (i := 5) hc (by omega)
  have ht := tst (bin (op := oIn) (fa := cVar 5) (fb := cVar 3) (ρ := EW s' n L x4 (some (D (rowD r))) x6) (var (d := rowD r) rfl) (var (d := .list (L.map rowD)) rfl) (e_inRow L r))
  unfold bodyLI
  rw [seq_nx hs]
  cases hcn : L.contains r with
  | true =>
    rw [hcn] at ht
    refine ⟨s', L, some (D (rowD r)), ?_, a2, hL, by omega, fun e => by rw [e] at hcn; cases hcn⟩
    exact set_d' (ρ1 := EW s' n L x4 (some (D (rowD r))) x6) ((ife_yes ht).trans (var (d := .list (L.map rowD)) rfl)) (by omega) rfl
  | false =>
    rw [hcn] at ht
    refine ⟨s', L ++ [r], some (D (rowD r)), ?_, a2, hL.add a3 hcn, by rw [List.length_append, List.length_singleton]; omega, by simp⟩
    have hcat := bin (op := oAdd) (fa := cVar 3) (fb := cLst (aCons (cVar 5) aNil)) (ρ := EW s' n L x4 (some (D (rowD r))) x6) (var (d := .list (L.map rowD)) rfl) (lst1 (var (d := rowD r) rfl)) (e_catL (by rw [List.length_map, List.length_singleton]; omega))
    refine set_d' (ρ1 := EW s' n L x4 (some (D (rowD r))) x6) ((ife_no ht).trans hcat) (by omega) ?_
    unfold EW
    rw [List.map_append]
    rfl
theorem li_loop (k : Nat) {n : Nat} (h1 : 1 ≤ n) (h3 : n ≤ 3) (N : Nat) (x6 : Option Val) : ∀ (xs : List Nat) (s : Tp) (L : List (List Int)) (x4 x5 : Option Val), TOk (N + 5 * xs.length) s → LsOk n L → L.length + xs.length ≤ 4 → ∃ s' L' x4' x5', forL (tName 3 4) (bodyLI k) (iz xs) (EW s n L x4 x5 x6) = some (.ok .nx (EW s' n L' x4' x5' x6)) ∧ TOk N s' ∧ LsOk n L' ∧ L'.length ≤ 4 ∧ (L ≠ [] ∨ xs ≠ [] → L' ≠ [])
  | [], s, L, x4, x5, h, hL, hl => ⟨s, L, x4, x5, rfl, h, hL, by simpa using hl, fun z => z.elim id fun e => absurd rfl e⟩
  | x :: xs, s, L, x4, x5, h, hL, hl => by
    rw [List.length_cons] at h hl
    obtain ⟨s1, L1, y5, g1, g2, g3, g4, g5⟩ := li_step k h1 h3 (N := N + 5 * xs.length) (s := s) (h.mono (by omega)) hL (by omega) (some (I (x : Int))) x5 x6
    obtain ⟨s2, L2, z4, z5, i1, i2, i3, i4, i5⟩ := li_loop k h1 h3 N x6 xs s1 L1 (some (I (x : Int))) y5 g2 g3 (by omega)
    refine ⟨s2, L2, z4, z5, ?_, i2, i3, i4, fun _ => i5 (.inl g5)⟩
    have e : iz (x :: xs) = .int (x : Int) :: iz xs := rfl
    have ht : tName 3 4 (.int (x : Int)) (EW s n L x4 x5 x6) = some (EW s n L (some (I (x : Int))) x5 x6) := rfl
    rw [e]
    unfold forL
    rw [ht]
    simp only
    rw [g1, bnd_ok]
    exact i1
theorem zeroR (n : Nat) : (PyData.tuple (List.replicate n (.int 0))) = rowD (List.replicate n 0) := by
  unfold rowD
  rw [List.map_replicate]
theorem li_zero (k : Nat) {n : Nat} (h1 : 1 ≤ n) (h3 : n ≤ 3) {N : Nat} {s : Tp} (h : TOk (N + 1) s) {L : List (List Int)} (hL : LsOk n L) (hl : L.length ≤ 4) (hne : L ≠ []) (x4 x5 x6 : Option Val) : ∃ s' L', sIf (cAndB (cTst (cBin oGt (cCall (tab (k + 2)) "_law_take" (aCons (cVar 0) (aCons (cC (.int (3))) aNil))) (cC (.int (0))))) (cTst (cBin oNotIn (cBin oMul (cTup (aCons (cC (.int (0))) aNil)) (cVar 1)) (cVar 3)))) (sSet 3 3 (cBin oAdd (cVar 3) (cLst (aCons (cBin oMul (cTup (aCons (cC (.int (0))) aNil)) (cVar 1)) aNil)))) bNil (EW s n L x4 x5 x6) = some (.ok .nx (EW s' n L' x4 x5 x6)) ∧ TOk N s' ∧ LsOk n L' ∧ L'.length ≤ 5 ∧ L' ≠ [] := by
  obtain ⟨s', z, a1, a2, a3⟩ := t_take (k + 1) 3 (by omega) (by omega) N s h
  have hc := callT1 (Φ := tab (k + 2)) (f := "_law_take") (i := 0) (ρ := EW s n L x4 x5 x6) (fb := cC (.int 3)) rfl (const (.int 3) _) a1
  have hgt := tst' (bin2 (op := oGt) hc (const (.int 0) _) (e_gtI _ _))
  have hz := bin (op := oMul) (fa := cTup (aCons (cC (.int (0))) aNil)) (fb := cVar 1) (ρ := EW s' n L x4 x5 x6) (a := .tuple [.int 0]) rfl (var (d := .int (n : Int)) rfl) (e_repT h1 (by omega) _)
  rw [zeroR] at hz
  have hnin := tst (bin (op := oNotIn) (fb := cVar 3) hz (var (d := .list (L.map rowD)) rfl) (e_ninRow L _))
  have hand := andB' hgt fun _ => hnin
  cases hb : (decide ((0 : Int) < (z : Int)) && !L.contains (List.replicate n 0)) with
  | false =>
    rw [hb] at hand
    exact ⟨s', L, (if_no' hand).trans rfl, a2, hL, by omega, hne⟩
  | true =>
    rw [hb] at hand
    rw [Bool.and_eq_true, Bool.not_eq_true'] at hb
    have hcat := bin (op := oAdd) (fa := cVar 3) (ρ := EW s' n L x4 x5 x6) (var (d := .list (L.map rowD)) rfl) (lst1 hz) (e_catL (by rw [List.length_map, List.length_singleton]; omega))
    refine ⟨s', L ++ [List.replicate n 0], (if_yes' hand).trans (set_d' hcat (by omega) ?_), a2, hL.add (zero_ok n 3) hb.2, by rw [List.length_append, List.length_singleton]; omega, by simp⟩
    unfold EW
    rw [List.map_append]
    rfl
theorem li_loads (k : Nat) {n : Nat} (h3 : n ≤ 3) {N : Nat} {s : Tp} {L : List (List Int)} (h : TOk (N + L.length) s) (hl : L.length ≤ 5) (x4 x5 x6 : Option Val) : ∃ (s' : Tp) (W : List Nat), cLc [5] (iSeq (cVar 3)) (tName 0 5) cYes (cBin oAdd (cC (.int (1))) (cCall (tab (k + 2)) "_law_take" (aCons (cVar 0) (aCons (cC (.int (5))) aNil)))) (EW s n L x4 x5 x6) = some (.ok (D (nl W)) (EW s' n L x4 x5 x6)) ∧ TOk N s' ∧ W.length = L.length ∧ ∀ w ∈ W, 0 < w ∧ w ≤ 5 := by
  obtain ⟨s', ys, a1, a2, a3, a4⟩ := lc_st (v := 5) (it := iSeq (cVar 3)) (e := cBin oAdd (cC (.int (1))) (cCall (tab (k + 2)) "_law_take" (aCons (cVar 0) (aCons (cC (.int (5))) aNil)))) (fun s : Tp => EW s n L x4 x5 x6) (fun m s => TOk (N + m) s) (fun y => ∃ w : Nat, y = .int (w : Int) ∧ 0 < w ∧ w ≤ 5) (fun _ _ => rfl) (fun s => by simp [EW]) (L.map rowD) (by rw [List.length_map]; omega) (fun d hd m s hs => by
    obtain ⟨s', z, c1, c2, c3⟩ := t_take (k + 1) 5 (by omega) (by omega) (N + m) s hs
    have hc := callT1 (Φ := tab (k + 2)) (f := "_law_take") (i := 0) (ρ := (wipeE (EW s n L x4 x5 x6) [5]).set 5 (some (.dat d))) (fb := cC (.int 5)) rfl (const (.int 5) _) c1
    exact ⟨s', .int ((1 : Int) + z), bin2 (op := oAdd) (const (.int 1) _) hc (e_addI _ _), c2, 1 + z, by congr 1, by omega, by omega⟩) s (it_L (f := cVar 3) (ds := L.map rowD) (var rfl)) (by rw [List.length_map]; exact h)
  obtain ⟨W, rfl, hW⟩ := nats_of ys a4
  refine ⟨s', W, a1, a2, ?_, hW⟩
  rw [List.length_map] at a3
  simpa [iz] using a3
theorem t_dlit (k : Nat) {n : Nat} (h1 : 1 ≤ n) (h3 : n ≤ 3) (N : Nat) (s : Tp) (h : TOk (N + 27) s) : ∃ s' l, tab (k + 3) "_law_litters" [tpV s, I (n : Int), I 3] = some (.ok (D (litD l)) [tpV s', I (n : Int), I 3]) ∧ TOk N s' ∧ LitOk n l := by
  obtain ⟨s1, z, a1, a2, a3⟩ := t_take (k + 1) 4 (by omega) (by omega) (N + 26) s h
  have ez : ((1 : Int) + (z : Int)) = ((1 + z : Nat) : Int) := by omega
  obtain ⟨s2, L, x4, x5, b1', b2, b3, b4, b5⟩ := li_loop k h1 h3 (N + 6) none (List.range (1 + z)) s1 [] none none (a2.mono (by rw [List.length_range]; omega)) ⟨List.nodup_nil, fun _ h => nomatch h⟩ (by rw [List.length_range, List.length_nil]; omega)
  have hLne : L ≠ [] := b5 (.inr (by
    intro e
    have := congrArg List.length e
    rw [List.length_range, List.length_nil] at this
    omega))
  obtain ⟨s3, L', c1, c2, c3, c4, c5⟩ := li_zero k h1 h3 (N := N + 5) (s := s2) b2 b3 b4 hLne x4 x5 none
  obtain ⟨s4, W, d1, d2, d3, d4⟩ := li_loads k h3 (N := N) (s := s3) (L := L') (c2.mono (by omega)) c4 x4 x5 none
  have f1 : (L'.zip W).map (·.1) = L' := List.map_fst_zip (by omega)
  have f2 : (L'.zip W).map (·.2) = W := List.map_snd_zip (by omega)
  have hP : PrOk n (L'.zip W) := by
    refine ⟨fun e => ?_, ?_, fun r hr => ?_, fun r hr => ?_, by rw [f1]; exact c3.nd⟩
    · rw [e] at f1
      exact c5 f1.symm
    · rw [List.length_zip]; omega
    · exact c3.ok r.1 (List.of_mem_zip hr).1
    · exact d4 r.2 (List.of_mem_zip hr).2
  have ho := t_ordered k hP
  rw [f1, f2] at ho
  refine ⟨s4, srtP (L'.zip W), ?_, d2, (litOf hP).1⟩
  rw [tab__law_litters]
  have hr0 : sSet 3 3 (cLst aNil) [some (tpV s), some (I (n : Int)), some (I 3), none, none, none, none] = some (.ok .nx (EW s n [] none none none)) := rfl
  have hc := callT1 (Φ := tab (k + 2)) (f := "_law_take") (i := 0) (ρ := EW s n [] none none none) (fb := cC (.int 4)) rfl (const (.int 4) _) a1
  have hc2 := bin2 (op := oAdd) (const (.int 1) (EW s n [] none none none)) hc (e_addI _ _)
  rw [ez] at hc2
  have hf : sFor (iRng (aCons (cBin oAdd (cC (.int (1))) (cCall (tab (k + 2)) "_law_take" (aCons (cVar 0) (aCons (cC (.int (4))) aNil)))) aNil)) (tName 3 4) (bodyLI k) (EW s n [] none none none) = some (.ok .nx (EW s2 n L x4 x5 none)) := by
    unfold sFor
    rw [it_rng' hc2 (by omega), bnd_ok]
    exact b1'
  have hbody : b__law_litters (tab (k + 2)) [some (tpV s), some (I (n : Int)), some (I 3), none, none, none, none] = some (.ok (.rt (D (litD (srtP (L'.zip W))))) (EW s4 n L' x4 x5 (some (D (nl W))))) := by
    unfold b__law_litters
    unfold bodyLI at hf
    rw [seq_nx hr0, seq_nx hf, seq_nx c1, seq_nx (set_d' d1 (by omega) (show _ = EW s4 n L' x4 x5 (some (D (nl W))) from rfl))]
    exact ret_d (call2 (var (i := 3) (d := .list (L'.map rowD)) rfl) (var (i := 6) (d := nl W) rfl) ho)
  exact run_g rfl hbody (by simp [EW, tpV])
end PP.K03

end
section
set_option Elab.async false
set_option linter.all false
set_option maxRecDepth 100000
set_option maxHeartbeats 1000000
/-! K03td: books drawn, the tape made. -/
namespace PP.K03
open PySem PySem.Spec PyProof.Rows L2 PP

theorem lits_of {n : Nat} : ∀ (ys : List PyData), (∀ y ∈ ys, ∃ l : Lit, y = litD l ∧ LitOk n l) → ∃ Ls : List Lit, ys = Ls.map litD ∧ ∀ l ∈ Ls, LitOk n l
  | [], _ => ⟨[], rfl, fun _ h => nomatch h⟩
  | y :: ys, h => by
    obtain ⟨w, rfl, h1⟩ := h y List.mem_cons_self
    obtain ⟨W, rfl, h2⟩ := lits_of ys fun z hz => h z (List.mem_cons_of_mem _ hz)
    refine ⟨w :: W, rfl, fun x hx => ?_⟩
    rcases List.mem_cons.mp hx with rfl | hx
    · exact h1
    · exact h2 x hx
theorem tup4 {ρ : PP.Env} {f g h j : Ev} {a b c d : PyData} (h1 : f ρ = some (.ok (.dat a) ρ)) (h2 : g ρ = some (.ok (.dat b) ρ)) (h3 : h ρ = some (.ok (.dat c) ρ)) (h4 : j ρ = some (.ok (.dat d) ρ)) : cTup (aCons f (aCons g (aCons h (aCons j aNil)))) ρ = some (.ok (.dat (.tuple [a, b, c, d])) ρ) := by
  simp [cTup, aCons, aNil, h1, h2, h3, h4, finTup, okLen]
theorem cut_nms {n : Nat} (h1 : 1 ≤ n) (h3 : n ≤ 3) : cutD [nm "a", nm "b", nm "c"] none (some (n : Int)) = nms n := by
  rcases (show n = 1 ∨ n = 2 ∨ n = 3 by omega) with rfl | rfl | rfl <;> rfl
def EB (s : Tp) (n : Nat) (x3 x4 x5 : Option Val) : PP.Env := [some (tpV s), some (I 3), some (I (n : Int)), x3, x4, x5]
theorem t_dbook (k : Nat) (N : Nat) (s : Tp) (h : TOk (N + 87) s) : ∃ s' b, tab (k + 4) "_law_book" [tpV s, I 3] = some (.ok (D (bkD b)) [tpV s', I 3]) ∧ TOk N s' ∧ BkOk b := by
  obtain ⟨s1, z, a1, a2, a3⟩ := t_take (k + 2) 3 (by omega) (by omega) (N + 86) s h
  have ez : ((1 : Int) + (z : Int)) = ((1 + z : Nat) : Int) := by omega
  generalize hn : 1 + z = n at ez
  have h1 : 1 ≤ n := by omega
  have h3 : n ≤ 3 := by omega
  have hit : iRng (aCons (cVar 2) aNil) (EB s1 n none none none) = some (.ok ((List.range n).map fun i : Nat => .int (i : Int)) (EB s1 n none none none)) := it_rng (f := cVar 2) (n := n) (var rfl) (by omega)
  obtain ⟨s2, ys, b1', b2, b3, b4⟩ := lc_st (v := 4) (it := iRng (aCons (cVar 2) aNil)) (e := cCall (tab (k + 3)) "_law_litters" (aCons (cVar 0) (aCons (cVar 2) (aCons (cVar 1) aNil)))) (fun s : Tp => EB s n none none none) (fun m s => TOk (N + 5 + 27 * m) s) (fun y => ∃ l : Lit, y = litD l ∧ LitOk n l) (fun _ _ => rfl) (fun s => by simp [EB]) ((List.range n).map fun i : Nat => .int (i : Int)) (by simp; omega) (fun d hd m s hs => by
    obtain ⟨s', l, c1, c2, c3⟩ := t_dlit k h1 h3 (N + 5 + 27 * m) s (hs.mono (by omega))
    have hc := callT2 (Φ := tab (k + 3)) (f := "_law_litters") (i := 0) (ρ := (wipeE (EB s n none none none) [4]).set 4 (some (.dat d))) (fb := cVar 2) (fc := cVar 1) rfl (var (d := .int (n : Int)) rfl) (var (d := .int 3) rfl) c1
    exact ⟨s', litD l, hc, c2, l, rfl, c3⟩) s1 hit (a2.mono (by simp; omega))
  obtain ⟨Ls, rfl, hLs⟩ := lits_of ys b4
  rw [List.length_map, List.length_map, List.length_range] at b3
  obtain ⟨s3, r, c1, c2, c3⟩ := t_dlot (k + 1) (n := n) (m := 3) h1 h3 (by omega) N s2 b2
  refine ⟨s3, ⟨n, Ls, r⟩, ?_, c2, ⟨h1, h3, b3, hLs, c3.1, fun x hx => ⟨c3.2.1 x hx, by have := c3.le hx; omega⟩, by show r.sum ≤ 20; have := c3.2.2; omega⟩⟩
  rw [tab__law_book]
  have hc := callT1 (Φ := tab (k + 3)) (f := "_law_take") (i := 0) (ρ := [some (tpV s), some (I 3), none, none, none, none]) (fb := cC (.int 3)) rfl (const (.int 3) _) a1
  have hc2 := bin2 (op := oAdd) (const (.int 1) [some (tpV s), some (I 3), none, none, none, none]) hc (e_addI _ _)
  rw [ez] at hc2
  have hlt := callT2 (Φ := tab (k + 3)) (f := "_law_lot") (i := 0) (ρ := EB s2 n (some (D (.tuple (Ls.map litD)))) none none) (fb := cVar 2) (fc := cC (.int 3)) rfl (var (d := .int (n : Int)) rfl) (const (.int 3) _) c1
  have htup : cB bTup (aCons (cLc [4] (iRng (aCons (cVar 2) aNil)) (tName 0 4) cYes (cCall (tab (k + 3)) "_law_litters" (aCons (cVar 0) (aCons (cVar 2) (aCons (cVar 1) aNil))))) aNil) (EB s1 n none none none) = some (.ok (D (.tuple (Ls.map litD))) (EB s2 n none none none)) := by
    simp [cB, aCons, aNil, b1', finB]
  have hbody : b__law_book (tab (k + 3)) [some (tpV s), some (I 3), none, none, none, none] = some (.ok (.rt (D (bkD ⟨n, Ls, r⟩))) (EB s3 n (some (D (.tuple (Ls.map litD)))) none (some (D (rowD r))))) := by
    unfold b__law_book
    rw [seq_nx (set_d' hc2 (by omega) (show _ = EB s1 n none none none from rfl)), seq_nx (set_d' htup (by omega) (show _ = EB s2 n (some (D (.tuple (Ls.map litD)))) none none from rfl)), seq_nx (set_d' hlt (by omega) (show _ = EB s3 n (some (D (.tuple (Ls.map litD)))) none (some (D (rowD r))) from rfl))]
    refine ret_d (tup4 (const _ _) (b := .tuple (nms n)) ?_ (var (i := 3) (d := .tuple (Ls.map litD)) rfl) (var (i := 5) (d := rowD r) rfl))
    have ht : ∀ ρ : PP.Env, cTup (aCons (cC (.str (Str.ofString "a"))) (aCons (cC (.str (Str.ofString "b"))) (aCons (cC (.str (Str.ofString "c"))) aNil))) ρ = some (.ok (D (.tuple [nm "a", nm "b", nm "c"])) ρ) := fun ρ => rfl
    have hv : cVar 2 (EB s3 n (some (D (.tuple (Ls.map litD)))) none (some (D (rowD r)))) = some (.ok (I (n : Int)) (EB s3 n (some (D (.tuple (Ls.map litD)))) none (some (D (rowD r))))) := var rfl
    rw [← cut_nms h1 h3]
    simp only [cSl, ht, bnd_ok, oNone, oSome, hv, asI]
    rfl
  exact run_g rfl hbody (by simp [EB, tpV])
theorem t_state (k : Nat) (ns : List Int) (h : ns.length ≤ 63) : ∃ s, tab (k + 1) "_law_state" [.scr ns] = some (.ok (tpV s) [.scr ns]) ∧ TOk 100000 s := by
  have hcut : cutD (ns.map .int) none (some 63) = ns.map .int := by
    refine cut_whole ?_ ?_
    · simp [HT.sIx]
    · simp [HT.sIx]
      omega
  have hsl : cSl (cVar 0) oNone (oSome (cC (.int (63)))) [some (.scr ns), none, none] = some (.ok (D (.list (ns.map .int))) [some (.scr ns), none, none]) := by
    have hv : cVar 0 [some (.scr ns), none, none] = some (.ok (.scr ns) [some (.scr ns), none, none]) := rfl
    simp only [cSl, hv, bnd_ok, oNone, oSome, cC, asI]
    show finSl _ _ _ _ = _
    unfold finSl
    rw [res_scr]
    simp only [lOf, hcut]
  have hlc := lcO_map (v := 2) (c := cYes) (e := cB bAbs (aCons (cVar 2) aNil)) (ρ := [some (.scr ns), none, none]) ns PyData.int (fun x => some (.int (x.natAbs : Int))) (it_L hsl) (by simp) (by omega) (fun x hx => step_yes rfl (b1 (var (i := 2) (d := .int x) rfl) (e_absI x)))
  rw [filterMap_some] at hlc
  rw [tab__law_state]
  have hs : sSet 1 1 (cLcO [2] (iSeq (cSl (cVar 0) oNone (oSome (cC (.int (63)))))) (tName 0 2) cYes (cB bAbs (aCons (cVar 2) aNil))) [some (.scr ns), none, none] = some (.ok .nx [some (.scr ns), some (.ml (ns.map fun x : Int => .int (x.natAbs : Int))), none]) := by
    unfold sSet
    rw [hlc, bnd_ok]
    rfl
  have ht := tst (bin (op := oEqq) (lenM (i := 1) (ds := ns.map fun x : Int => .int (x.natAbs : Int)) (ρ := [some (.scr ns), some (.ml (ns.map fun x : Int => .int (x.natAbs : Int))), none]) rfl) (const (.int 0) _) (e_eqI _ _))
  have fin : ∀ cells : List Int, cells ≠ [] → (∀ c ∈ cells, 0 ≤ c) → b__law_state (tab k) [some (.scr ns), none, none] = some (.ok (.rt (tpV (0, cells))) [some (.scr ns), none, none]) → ∃ s, runFn 1 N__law_state.length (b__law_state (tab k)) [.scr ns] = some (.ok (tpV s) [.scr ns]) ∧ TOk 100000 s := fun cells a1 a2 a3 => ⟨(0, cells), run_g rfl a3 (by simp), ⟨a1, a2, Int.le_refl _, by simp⟩⟩
  cases ns with
  | nil =>
    refine fin [0] (by simp) (by simp) ?_
    unfold b__law_state
    rw [seq_nx hs]
    have ht2 : cTst (cBin oEqq (cB bLen (aCons (cVar 1) aNil)) (cC (.int (0)))) [some (.scr []), some (.ml []), none] = some (.ok true [some (.scr []), some (.ml []), none]) := ht
    have hset : sSet 1 1 (cNl (aCons (cC (.int (0))) aNil)) [some (.scr []), some (.ml []), none] = some (.ok .nx [some (.scr []), some (.ml [.int 0]), none]) := rfl
    show bSeq _ _ [some (.scr []), some (.ml []), none] = _
    rw [seq_nx ((if_yes ht2).trans hset)]
    rfl
  | cons x ns =>
    refine fin ((x :: ns).map fun x => (x.natAbs : Int)) (by simp) (fun c hc => by
      obtain ⟨y, _, rfl⟩ := List.mem_map.mp hc
      omega) ?_
    unfold b__law_state
    rw [seq_nx hs]
    have e : (((((x :: ns).map fun x : Int => PyData.int (x.natAbs : Int)).length : Nat) : Int) == 0) = false := by
      rw [beq_eq_false_iff_ne, List.length_map, List.length_cons]
      omega
    rw [e] at ht
    rw [seq_nx ((if_no ht).trans rfl)]
    have hi : intsOf ((x :: ns).map fun x : Int => PyData.int (x.natAbs : Int)) = some ((x :: ns).map fun x => (x.natAbs : Int)) := by
      have := intsOf_of ((x :: ns).map fun x => (x.natAbs : Int))
      rwa [List.map_map] at this
    have hf : cTape 0 1 [some (.scr (x :: ns)), some (.ml ((x :: ns).map fun x : Int => .int (x.natAbs : Int))), none] = some (.ok (tpV (0, (x :: ns).map fun x => (x.natAbs : Int))) [some (.scr (x :: ns)), none, none]) := by
      show finTape _ _ _ = _
      unfold finTape
      show (match intsOf ((x :: ns).map fun x : Int => PyData.int (x.natAbs : Int)) with
        | some is => _
        | none => _) = _
      rw [hi]
      rfl
    unfold sRet
    rw [hf, bnd_ok]
    rfl
end PP.K03

end
section
set_option Elab.async false
set_option linter.all false
set_option maxRecDepth 100000
set_option maxHeartbeats 1000000
/-! K03te: sorted_litters. -/
namespace PP.K03
open PySem PySem.Spec PyProof.Rows L2 PP
open PySem.W (dataLt dataLe alike alikeAll AllAlike)

def leR (a b : List Int) : Bool := dataLe false (fun d : PyData => d) (rowD a) (rowD b)
def srtR (L : List (List Int)) : List (List Int) := L.mergeSort leR
theorem sort_row (L : List (List Int)) : sortD (L.map rowD) = (srtR L).map rowD := by
  unfold sortD srtR
  exact (List.map_mergeSort (f := rowD) (r := leR) (s := dataLe false fun d : PyData => d) (l := L) fun a _ b _ => rfl).symm
theorem leR_trans : ∀ a b c : List Int, leR a b = true → leR b c = true → leR a c = true := fun a b c =>
  (PySem.W.sortLe_total (listOrd itemOrd) false PySem.W.keyToks).trans (rowD a) (rowD b) (rowD c)
theorem leR_total : ∀ a b : List Int, (leR a b || leR b a) = true := fun a b => by
  rw [Bool.or_eq_true]
  exact (PySem.W.sortLe_total (listOrd itemOrd) false PySem.W.keyToks).total (rowD a) (rowD b)
theorem leR_anti {a b : List Int} (h1 : leR a b = true) (h2 : leR b a = true) : a = b := rowD_inj (dataLe_anti (rowD_alike a b) h1 h2)
theorem srtR_perm (L : List (List Int)) : (srtR L).Perm L := List.mergeSort_perm L _
theorem flt_srt {l K : List (List Int)} {p : List Int → Bool} (h1 : l.Nodup) (h2 : K.Nodup) (h : ∀ r, r ∈ K ↔ r ∈ l ∧ p r = true) : (srtR l).filter p = srtR K := by
  refine List.Perm.eq_of_pairwise (le := fun a b => leR a b = true) (fun a b _ _ h1 h2 => leR_anti h1 h2) (List.Pairwise.filter _ (List.pairwise_mergeSort leR_trans leR_total l)) (List.pairwise_mergeSort leR_trans leR_total K) ?_
  refine (List.perm_ext_iff_of_nodup (((srtR_perm l).nodup_iff.mpr h1).sublist List.filter_sublist) ((srtR_perm K).nodup_iff.mpr h2)).mpr fun r => ?_
  rw [List.mem_filter, (srtR_perm l).mem_iff, (srtR_perm K).mem_iff, h]
theorem canSort_row {L : List (List Int)} (h : L.length ≤ 1000000) (hne : ∀ r ∈ L, r ≠ []) : canSort (L.map rowD) = true := by
  unfold canSort
  have hm : ∀ d ∈ L.map rowD, ∃ i : List Int, i ≠ [] ∧ d = rowD i := fun d hd => by
    obtain ⟨i, hi, rfl⟩ := List.mem_map.mp hd
    exact ⟨_, hne i hi, rfl⟩
  simp only [Bool.and_eq_true, Bool.or_eq_true, List.all_eq_true]
  refine ⟨⟨⟨fun d hd e he => ?_, .inr fun d hd => ?_⟩, fun d hd => ?_⟩, ?_⟩
  · obtain ⟨i, _, rfl⟩ := hm d hd
    obtain ⟨j, _, rfl⟩ := hm e he
    exact rowD_alike i j
  · obtain ⟨i, hi, rfl⟩ := hm d hd
    obtain ⟨x, i', rfl⟩ := List.exists_cons_of_ne_nil hi
    rfl
  · obtain ⟨i, _, rfl⟩ := hm d hd
    exact decide_eq_true (by rw [rowD_depth]; omega)
  · rw [List.length_map]
    exact decide_eq_true h
theorem rowsD_rows : ∀ L : List (List Int), rowsD (L.map rowD) = some L
  | [] => rfl
  | r :: L => by
    rw [List.map_cons]
    show (match intsOf (r.map .int), rowsD (L.map rowD) with
      | some is, some rs => some (is :: rs)
      | _, _ => none) = _
    rw [intsOf_of, rowsD_rows L]
theorem setD_rows {L : List (List Int)} (hne : L ≠ []) (h : L.length < 64) : setD (L.map rowD) = some ((dd L).map rowD) := by
  have h1 : intsOf (L.map rowD) = none := by
    obtain ⟨r, L', rfl⟩ := List.exists_cons_of_ne_nil hne
    rfl
  unfold setD
  rw [h1, rowsD_rows]
  simp only [h, decide_true, if_true]
/-- sorted(set(rows)) -/
theorem ss_row {f : Ev} {ρ : PP.Env} {L : List (List Int)} (h : f ρ = some (.ok (D (.list (L.map rowD))) ρ)) (hne : L ≠ []) (hl : L.length < 64) (hr : ∀ r ∈ L, r ≠ []) : cSS false f ρ = some (.ok (D (.list ((srtR (dd L)).map rowD))) ρ) := by
  have h2 : canSort ((dd L).map rowD) = true := canSort_row (by have := dd_length_le L; omega) fun r hr' => hr r (dd_mem' hr')
  unfold cSS
  rw [h, bnd_ok]
  unfold finSS
  simp only [res_dat, lOf, setD_rows hne hl, h2, if_true, sort_row, asL, Bool.false_eq_true, if_false]
where dd_mem' {L : List (List Int)} {r : List Int} (h : r ∈ dd L) : r ∈ L := mem_dd.mp h
def wt (ws : List Pr) (r : List Int) : Nat := (ws.map fun p => if p.1 = r then p.2 else 0).sum
theorem wt_filter (r : List Int) : ∀ ws : List Pr, ((ws.filter fun p => decide (p.1 = r)).map (·.2)).sum = wt ws r
  | [] => rfl
  | p :: ws => by
    have ih := wt_filter r ws
    have e : wt (p :: ws) r = (if p.1 = r then p.2 else 0) + wt ws r := rfl
    rw [e]
    by_cases h : p.1 = r
    · rw [List.filter_cons_of_pos (by simpa using h), List.map_cons, List.sum_cons, ih, if_pos h]
    · rw [List.filter_cons_of_neg (by simpa using h), ih, if_neg h, Nat.zero_add]
theorem wt_le (r : List Int) : ∀ ws : List Pr, wt ws r ≤ (ws.map (·.2)).sum
  | [] => Nat.le_refl _
  | p :: ws => by
    have ih := wt_le r ws
    have e : wt (p :: ws) r = (if p.1 = r then p.2 else 0) + wt ws r := rfl
    rw [e, List.map_cons, List.sum_cons]
    split <;> omega
def fnd (S : Nat) (ws : List Pr) (r : List Int) : PyData := .tuple [rowD r, pd (red ((wt ws r : Nat) : Int) S)]
theorem t_sl (k S : Nat) (hS : 0 < S) (hS2 : S < 900) (ws : List Pr) (hne : ws ≠ []) (hl : ws.length < 64) (hr : ∀ p ∈ ws, p.1 ≠ []) (hs : (ws.map (·.2)).sum ≤ S) : tab (k + 5) "sorted_litters" [D (.list (ws.map (rwD S)))] = some (.ok (D (.tuple (((srtR (dd (ws.map (·.1)))).filter fun r => decide (0 < (red ((wt ws r : Nat) : Int) S).1)).map (fnd S ws)))) [D (.list (ws.map (rwD S)))]) := by
  rw [tab_sorted_litters]
  generalize hA : PyData.list (ws.map (rwD S)) = A
  have vA : ∀ {ρ : PP.Env}, ρ[0]? = some (some (D A)) → cVar 0 ρ = some (.ok (D (.list (ws.map (rwD S)))) ρ) := fun {ρ} z => by rw [hA]; exact var z
  have hrows := lc_m (v := 2) (e := (cBin oIx (cVar 2) (cC (.int (0))))) (ρ := [some (D A), none, none, none, none]) ws (rwD S) (fun p => rowD p.1) (it_L (vA rfl)) (by simp) (by omega) (fun p hp => ixT (var (i := 2) (d := rwD S p) rfl) (const (.int 0) _) atI_0)
  have e0 : ws.map (fun p => rowD p.1) = (ws.map (·.1)).map rowD := by rw [List.map_map]; rfl
  rw [e0] at hrows
  have hss := ss_row hrows (by simpa using hne) (by rw [List.length_map]; omega) (fun r hr' => by
    obtain ⟨p, hp, rfl⟩ := List.mem_map.mp hr'
    exact hr p hp)
  generalize hM : srtR (dd (ws.map (·.1))) = M at hss ⊢
  have hMl : M.length ≤ 1000 := by
    rw [← hM, (srtR_perm _).length_eq]
    have := dd_length_le (ws.map (·.1))
    rw [List.length_map] at this
    omega
  have hfound := lc_m (v := 4) (e := (cTup (aCons (cVar 4) (aCons (cCall (tab (k + 4)) "total" (aCons (cLc [2] (iSeq (cVar 0)) (tName 0 2) (cTst (cBin oEqq (cBin oIx (cVar 2) (cC (.int (0)))) (cVar 4))) (cBin oIx (cVar 2) (cC (.int (1))))) aNil)) aNil)))) (ρ := [some (D A), some (D (.list (M.map rowD))), none, none, none]) M rowD (fnd S ws) (it_L (f := cVar 1) (var rfl)) (by simp) (by omega) (fun r hr' => by
    have hin := lc_f (v := 2) (c := (cTst (cBin oEqq (cBin oIx (cVar 2) (cC (.int (0)))) (cVar 4)))) (e := (cBin oIx (cVar 2) (cC (.int (1))))) (ρ := ((wipeE [some (D A), some (D (.list (M.map rowD))), none, none, none] [4]).set 4 (some (.dat (rowD r))))) ws (rwD S) (fun p => decide (p.1 = r)) (fun p => pd (red (p.2 : Int) S)) (it_L (vA rfl)) (by simp [wipeE]) (by omega) (fun p hp => by
      have := tst (bin (op := oEqq) (ixT (var (i := 2) (d := rwD S p) (ρ := (wipeE ((wipeE [some (D A), some (D (.list (M.map rowD))), none, none, none] [4]).set 4 (some (.dat (rowD r)))) [2]).set 2 (some (.dat (rwD S p)))) rfl) (const (.int 0) _) atI_0) (var (i := 4) (d := rowD r) rfl) (e_eqD (by rw [rowD_depth]; omega)))
      rw [eqv_row] at this
      exact this) (fun p hp _ => ixT (var (i := 2) (d := rwD S p) rfl) (const (.int 1) _) atI_1)
    have ep : PyData.list ((ws.filter fun p => decide (p.1 = r)).map fun p => pd (red (p.2 : Int) S)) = partsOf S ((ws.filter fun p => decide (p.1 = r)).map (·.2)) := by
      unfold partsOf
      rw [List.map_map]
      rfl
    rw [ep] at hin
    have htot := t_total k S ((ws.filter fun p => decide (p.1 = r)).map (·.2)) hS hS2 (by rw [wt_filter]; exact Nat.le_trans (wt_le r ws) hs)
    rw [wt_filter] at htot
    exact tup2 (var (i := 4) (d := rowD r) rfl) (call1 hin htot))
  have hret := lc_f (v := 2) (c := (cTst (cBin oGt (cBin oIx (cBin oIx (cVar 2) (cC (.int (1)))) (cC (.int (0)))) (cC (.int (0)))))) (e := cVar 2) (ρ := [some (D A), some (D (.list (M.map rowD))), none, some (D (.list (M.map (fnd S ws)))), none]) M (fnd S ws) (fun r => decide (0 < (red ((wt ws r : Nat) : Int) S).1)) (fnd S ws) (it_L (f := cVar 3) (var rfl)) (by simp) (by omega) (fun r hr' => tst (bin (op := oGt) (ixT (ixT (var (i := 2) (d := fnd S ws r) rfl) (const (.int 1) _) atI_1) (const (.int 0) _) atI_0) (const (.int 0) _) (e_gtI _ _))) (fun r hr' _ => var rfl)
  have hbody : b_sorted_litters (tab (k + 4)) [some (D A), none, none, none, none] = some (.ok (.rt (D (.tuple ((M.filter fun r => decide (0 < (red ((wt ws r : Nat) : Int) S).1)).map (fnd S ws))))) [some (D A), some (D (.list (M.map rowD))), none, some (D (.list (M.map (fnd S ws)))), none]) := by
    unfold b_sorted_litters
    rw [seq_nx (set_d' hss (by omega) (show _ = [some (D A), some (D (.list (M.map rowD))), none, none, none] from rfl)), seq_nx (set_d' hfound (by omega) (show _ = [some (D A), some (D (.list (M.map rowD))), none, some (D (.list (M.map (fnd S ws)))), none] from rfl))]
    exact ret_d (b1_tup hret)
  exact run_d rfl hbody (by simp) rfl
end PP.K03

end
section
set_option Elab.async false
set_option linter.all false
set_option maxRecDepth 100000
set_option maxHeartbeats 1000000
/-! K03tf: dicts of rows. -/
namespace PP.K03
open PySem PySem.Spec PyProof.Rows L2 PP

abbrev Dr := List (List Int × (Int × Int))
def kR (r : List Int) : List Key := r.map Sum.inl
def kT (g : Dr) : List (List Key × PyData) := g.map fun p => (kR p.1, pd p.2)
theorem kR_inj {a b : List Int} : kR a = kR b ↔ a = b := List.map_inj_right fun x y h => Sum.inl.inj h
theorem keysD_row : ∀ r : List Int, keysD (r.map .int) = some (kR r)
  | [] => rfl
  | x :: r => by
    rw [List.map_cons]
    show (match keyD (.int x), keysD (r.map .int) with
      | some k, some ks => some (k :: ks)
      | _, _ => none) = _
    rw [keysD_row r]
    rfl
def getT (g : Dr) (r : List Int) : Option (Int × Int) := (g.find? fun p => decide (p.1 = r)).map (·.2)
theorem get_kT (r : List Int) : ∀ g : Dr, kvGet (kT g) (kR r) = (getT g r).map fun v => pd v
  | [] => rfl
  | p :: g => by
    have ih := get_kT r g
    have e : kT (p :: g) = (kR p.1, pd p.2) :: kT g := rfl
    unfold kvGet getT at ih ⊢
    rw [e]
    by_cases h : p.1 = r
    · rw [List.find?_cons_of_pos (by simpa using kR_inj.mpr h), List.find?_cons_of_pos (by simpa using h)]
      rfl
    · rw [List.find?_cons_of_neg (by simpa using fun z => h (kR_inj.mp z)), List.find?_cons_of_neg (by simpa using h)]
      exact ih
def putT (g : Dr) (r : List Int) (v : Int × Int) : Dr := if (g.any fun p => decide (p.1 = r)) = true then g.map (fun p => if p.1 = r then (p.1, v) else p) else g ++ [(r, v)]
theorem any_kT (r : List Int) (g : Dr) : ((kT g).any fun kv => decide (kv.1 = kR r)) = g.any fun p => decide (p.1 = r) := by
  unfold kT
  rw [List.any_map]
  congr 1
  funext p
  rw [Bool.eq_iff_iff]
  simp only [Function.comp, decide_eq_true_eq]
  exact kR_inj
theorem put_kT (g : Dr) (r : List Int) (v : Int × Int) : kvPut (kT g) (kR r) (pd v) = kT (putT g r v) := by
  unfold kvPut putT
  rw [any_kT]
  split
  · unfold kT
    rw [List.map_map, List.map_map]
    refine List.map_congr_left fun p _ => ?_
    show (if kR p.1 = kR r then (kR p.1, pd v) else (kR p.1, pd p.2)) = (kR (if p.1 = r then (p.1, v) else p).1, pd (if p.1 = r then (p.1, v) else p).2)
    by_cases h : p.1 = r
    · rw [if_pos (kR_inj.mpr h), if_pos h]
    · rw [if_neg (fun z => h (kR_inj.mp z)), if_neg h]
  · unfold kT
    rw [List.map_append]
    rfl
def stepT (g : Dr) (x : List Int × (Int × Int)) : Dr := putT g x.1 (red (((getT g x.1).getD (0, 1)).1 * x.2.2 + x.2.1 * ((getT g x.1).getD (0, 1)).2) (((getT g x.1).getD (0, 1)).2 * x.2.2))
def BdV (v : Int × Int) : Prop := 0 < v.2 ∧ v.2 < 50 ∧ v.1.natAbs < 2 ^ 100
theorem getT_bd {g : Dr} (h : ∀ p ∈ g, BdV p.2) (r : List Int) : BdV ((getT g r).getD (0, 1)) := by
  unfold getT
  cases e : g.find? fun p => decide (p.1 = r) with
  | none => exact ⟨by decide, by decide, by decide⟩
  | some p => exact h p (List.mem_of_find?_eq_some e)
section
variable {ρ : PP.Env} {i : Nat} {g : Dr}
theorem varD (h : ρ[i]? = some (some (.mt (kT g)))) : cVar i ρ = some (.ok (.bor i) ρ) := by simp [cVar, h]
theorem resD (h : ρ[i]? = some (some (.mt (kT g)))) : res ρ (.bor i) = some (.mt (kT g)) := res_bor' h rfl
theorem getD_go {fk fx : Ev} {r : List Int} {v : Int × Int} (h : ρ[i]? = some (some (.mt (kT g)))) (h1 : fk ρ = some (.ok (D (rowD r)) ρ)) (h2 : fx ρ = some (.ok (D (pd v)) ρ)) : cGet i fk fx ρ = some (.ok (D (pd ((getT g r).getD v))) ρ) := by
  have hd : isDct i ρ = true := by
    unfold isDct
    rw [h]
  have hk : kGet (.mt (kT g)) (rowD r) = some ((getT g r).map fun v => pd v) := by
    unfold kGet rowD
    simp only [keysD_row, get_kT]
  unfold cGet
  rw [hd, if_pos rfl, h1, bnd_ok, h2, bnd_ok]
  unfold finGet
  simp only [h, hk]
  cases getT g r <;> rfl
theorem put_row {fk fv : Ev} {r : List Int} {v : Int × Int} (h : ρ[i]? = some (some (.mt (kT g)))) (h1 : fv ρ = some (.ok (D (pd v)) ρ)) (h2 : fk ρ = some (.ok (D (rowD r)) ρ)) (hl : g.length ≤ 1000) : sPut i fk fv ρ = some (.ok .nx (ρ.set i (some (.mt (kT (putT g r v)))))) := by
  have hk : kPut (.mt (kT g)) (rowD r) (pd v) = some (.mt (kT (putT g r v))) := by
    have hlen : okLen ((kT g).length + 1) = true := by
      unfold kT okLen
      rw [List.length_map]
      exact decide_eq_true (by omega)
    unfold kPut rowD
    simp only [keysD_row, hlen, if_true, put_kT]
  simp only [sPut, h1, bnd_ok, isSet, h, if_true, h2, finPut, hk]
theorem dg_go {fk : Ev} {r : List Int} {v : Int × Int} (h : ρ[i]? = some (some (.mt (kT g)))) (h1 : fk ρ = some (.ok (D (rowD r)) ρ)) (hv : getT g r = some v) : cBin oDG (cVar i) fk ρ = some (.ok (D (pd v)) ρ) := by
  have hk : oDG (.mt (kT g)) (D (rowD r)) = some (pd v) := by
    unfold oDG kGet rowD
    simp only [keysD_row, get_kT, hv, Option.map_some]
  simp [cBin, varD h, h1, fin2, resD h, hk]
theorem keys_kT (g : Dr) : tKeys (kT g) = (g.map (·.1)).map rowD := by
  unfold tKeys kT
  rw [List.map_map, List.map_map]
  refine List.map_congr_left fun p _ => ?_
  show PyData.tuple ((kR p.1).map kD) = rowD p.1
  unfold kR rowD
  rw [List.map_map]
  rfl
theorem e_sortT (h : ρ[i]? = some (some (.mt (kT g)))) (hl : g.length ≤ 1000) (hne : ∀ p ∈ g, p.1 ≠ []) : cB (bSorted false) (aCons (cVar i) aNil) ρ = some (.ok (D (.list ((srtR (g.map (·.1))).map rowD))) ρ) := by
  have h1 : bSorted false [.mt (kT g)] = some (D (.list ((srtR (g.map (·.1))).map rowD))) := by
    have h2 : bSort false [.mt (kT g)] = none := rfl
    have hc : canSort ((g.map (·.1)).map rowD) = true := canSort_row (by rw [List.length_map]; omega) fun r hr => by
      obtain ⟨p, hp, rfl⟩ := List.mem_map.mp hr
      exact hne p hp
    have hk : ((kT g).all fun p => p.1.all keyOkB) = true := by
      rw [List.all_eq_true]
      intro q hq
      obtain ⟨p, hp, rfl⟩ := List.mem_map.mp hq
      rw [List.all_eq_true]
      intro k hk
      obtain ⟨x, hx, rfl⟩ := List.mem_map.mp hk
      rfl
    have h3 : bSortD false [.mt (kT g)] = some (D (.list ((srtR (g.map (·.1))).map rowD))) := by
      unfold bSortD
      simp only [keys_kT, hc, hk, Bool.and_self, if_true, sort_row, asL, Bool.false_eq_true, if_false]
    unfold bSorted orB
    rw [h2, h3]
  simp [cB, aCons, aNil, varD h, resD h, argOk, finB, h1]
end
/-! ### the dict of the three rows -/
theorem red14 : red (0 * 4 + 1 * 1) (1 * 4) = (1, 4) := by decide +kernel
theorem due_all (a c z : List Int) : ∃ g : Dr, stepT (stepT (stepT [] (a, (1, 4))) (c, (1, 4))) (a, (1, 2)) = g ∧ (∀ p ∈ stepT [] (a, (1, 4)), BdV p.2) ∧ (∀ p ∈ stepT (stepT [] (a, (1, 4))) (c, (1, 4)), BdV p.2) ∧ (stepT [] (a, (1, 4))).length ≤ 10 ∧ (stepT (stepT [] (a, (1, 4))) (c, (1, 4))).length ≤ 10 ∧ g.length ≤ 10 ∧ (∀ p ∈ g, p.1 = a ∨ p.1 = c) ∧
    (g.map (·.1)).Nodup ∧ (∀ r, r ∈ g.map (·.1) ↔ r ∈ dd ([(a, 1), (c, 1), (a, 2), (z, 0)].map fun p : Pr => p.1) ∧ decide (0 < (red ((wt [(a, 1), (c, 1), (a, 2), (z, 0)] r : Nat) : Int) 4).1) = true) ∧ ∀ r ∈ g.map (·.1), getT g r = some (red ((wt [(a, 1), (c, 1), (a, 2), (z, 0)] r : Nat) : Int) 4) := by
  have s1 : stepT [] (a, (1, 4)) = [(a, (1, 4))] := by
    show putT [] a (red (0 * 4 + 1 * 1) (1 * 4)) = _
    rw [red14]
    rfl
  have hw : ∀ r, wt [(a, 1), (c, 1), (a, 2), (z, 0)] r = (if a = r then 1 else 0) + ((if c = r then 1 else 0) + ((if a = r then 2 else 0) + 0)) := fun r => by
    show (if a = r then 1 else 0) + ((if c = r then 1 else 0) + ((if a = r then 2 else 0) + ((if z = r then 0 else 0) + 0))) = _
    by_cases h : z = r <;> simp [h]
  have b14 : BdV (1, 4) := ⟨by decide, by decide, by decide⟩
  have b12 : BdV (1, 2) := ⟨by decide, by decide, by decide⟩
  have r44 : red ((4 : Nat) : Int) 4 = (1, 1) := by decide +kernel
  have r34 : red ((3 : Nat) : Int) 4 = (3, 4) := by decide +kernel
  have r14 : red ((1 : Nat) : Int) 4 = (1, 4) := by decide +kernel
  have r04 : red ((0 : Nat) : Int) 4 = (0, 1) := by decide +kernel
  by_cases h : a = c
  · subst h
    have s2 : stepT [(a, (1, 4))] (a, (1, 4)) = [(a, (1, 2))] := by
      have e : getT [(a, ((1 : Int), (4 : Int)))] a = some (1, 4) := by simp [getT]
      have e2 : red ((1 : Int) * 4 + 1 * 4) (4 * 4) = (1, 2) := by decide +kernel
      simp only [stepT, e, Option.getD_some, e2, putT]
      simp
    have s3 : stepT [(a, (1, 2))] (a, (1, 2)) = [(a, (1, 1))] := by
      have e : getT [(a, ((1 : Int), (2 : Int)))] a = some (1, 2) := by simp [getT]
      have e2 : red ((1 : Int) * 2 + 1 * 2) (2 * 2) = (1, 1) := by decide +kernel
      simp only [stepT, e, Option.getD_some, e2, putT]
      simp
    rw [s1, s2, s3]
    refine ⟨_, rfl, ?_, ?_, by simp, by simp, by simp, by simp, by simp, ?_, ?_⟩
    · intro p hp
      rw [List.mem_singleton.mp hp]
      exact b14
    · intro p hp
      rw [List.mem_singleton.mp hp]
      exact b12
    · intro r
      rw [hw, mem_dd]
      by_cases hr : a = r
      · subst hr
        simp only [if_true]
        rw [show (1 + (1 + (2 + 0)) : Nat) = 4 from rfl, r44]
        simp
      · simp only [if_neg hr]
        rw [show (0 + (0 + (0 + 0)) : Nat) = 0 from rfl, r04]
        simp [Ne.symm hr]
    · intro r hr
      obtain rfl : r = a := by simpa using hr
      rw [hw]
      simp only [if_true]
      rw [show (1 + (1 + (2 + 0)) : Nat) = 4 from rfl, r44]
      simp [getT]
  · have h' : ¬ c = a := fun z => h z.symm
    have s2 : stepT [(a, (1, 4))] (c, (1, 4)) = [(a, (1, 4)), (c, (1, 4))] := by
      have e : getT [(a, ((1 : Int), (4 : Int)))] c = none := by simp [getT, h]
      simp only [stepT, e, Option.getD_none, red14, putT]
      simp [h]
    have s3 : stepT [(a, (1, 4)), (c, (1, 4))] (a, (1, 2)) = [(a, (3, 4)), (c, (1, 4))] := by
      have e : getT [(a, ((1 : Int), (4 : Int))), (c, (1, 4))] a = some (1, 4) := by simp [getT]
      have e2 : red ((1 : Int) * 2 + 1 * 4) (4 * 2) = (3, 4) := by decide +kernel
      simp only [stepT, e, Option.getD_some, e2, putT]
      simp [h']
    rw [s1, s2, s3]
    refine ⟨_, rfl, ?_, ?_, by simp, by simp, by simp, by simp, by simp [h], ?_, ?_⟩
    · intro p hp
      rw [List.mem_singleton.mp hp]
      exact b14
    · intro p hp
      simp only [List.mem_cons, List.not_mem_nil, or_false] at hp
      rcases hp with rfl | rfl
      · exact b14
      · exact b14
    · intro r
      rw [hw, mem_dd]
      by_cases hr : a = r
      · subst hr
        simp only [if_true, if_neg h']
        rw [show (1 + (0 + (2 + 0)) : Nat) = 3 from rfl, r34]
        simp
      · by_cases hr2 : c = r
        · subst hr2
          simp only [if_true, if_neg h]
          rw [show (0 + (1 + (0 + 0)) : Nat) = 1 from rfl, r14]
          simp
        · simp only [if_neg hr, if_neg hr2]
          rw [show (0 + (0 + (0 + 0)) : Nat) = 0 from rfl, r04]
          simp [Ne.symm hr, Ne.symm hr2]
    · intro r hr
      simp only [List.map_cons, List.map_nil, List.mem_cons, List.not_mem_nil, or_false] at hr
      rw [hw]
      rcases hr with rfl | rfl
      · simp only [if_true, if_neg h']
        rw [show (1 + (0 + (2 + 0)) : Nat) = 3 from rfl, r34]
        simp [getT]
      · simp only [if_true, if_neg h]
        rw [show (0 + (1 + (0 + 0)) : Nat) = 1 from rfl, r14]
        simp [getT, h]
end PP.K03

end
section
set_option Elab.async false
set_option linter.all false
set_option maxRecDepth 100000
set_option maxHeartbeats 1000000
/-! K03tg: _law_things. -/
namespace PP.K03
open PySem PySem.Spec PyProof.Rows L2 PP

section
variable {b : Bk}
def EH (s : Tp) (b : Bk) (a c : List Int) (x7 x8 x9 x10 : Option Val) : PP.Env := [some (tpV s), some (D (bkD b)), some (I (b.n : Int)), some (D (rowD a)), some (D (rowD c)), none, none, x7, x8, x9, x10]
theorem at_bd {n m : Nat} {r : List Int} (h : RowOk n m r) (hm : m ≤ 900) (i : Nat) : (at_ r i).natAbs < 1000 := by
  unfold at_
  rw [List.getD_eq_getElem?_getD]
  cases e : r[i]? with
  | none => decide
  | some x =>
    have h1 := h.2.1 x (List.mem_of_getElem? e)
    have h2 := h.le (List.mem_of_getElem? e)
    show x.natAbs < 1000
    omega
theorem th_c1 (k : Nat) (o : BkOk b) {s : Tp} {a c : List Int} (ha : RowOk b.n 4 a) (hc : RowOk b.n 4 c) : cOrB (cTst (cBin oNee (cCall (tab (k + 5)) "together" (aCons (cVar 3) (aCons (cVar 4) aNil))) (cB bTup (aCons (cLc [5] (iRng (aCons (cVar 2) aNil)) (tName 0 5) cYes (cBin oAdd (cBin oIx (cVar 3) (cVar 5)) (cBin oIx (cVar 4) (cVar 5)))) aNil)))) (cTst (cBin oNee (cCall (tab (k + 5)) "nothing" (aCons (cVar 1) aNil)) (cBin oMul (cTup (aCons (cC (.int (0))) aNil)) (cVar 2)))) (EH s b a c none none none none) = some (.ok false (EH s b a c none none none none)) := by
  have h3 := o.n3
  have h1 := o.n1
  have ha1 := ha.1
  have hc1 := hc.1
  have l1 := b1_tup (lc_mi (v := 5) (e := (cBin oAdd (cBin oIx (cVar 3) (cVar 5)) (cBin oIx (cVar 4) (cVar 5)))) (ρ := EH s b a c none none none none) (List.range b.n) (fun i : Nat => .int (i : Int)) (fun i => at_ a i + at_ c i) (it_rng (f := cVar 2) (n := b.n) (var rfl) (by omega)) (by simp [EH]) (by simp; omega) (fun i hi => by
    have hi' := List.mem_range.mp hi
    exact bin (ixT (var (i := 3) (d := rowD a) rfl) (var (i := 5) (d := .int (i : Int)) rfl) (ix_row (by omega))) (ixT (var (i := 4) (d := rowD c) rfl) (var (i := 5) (d := .int (i : Int)) rfl) (ix_row (by omega))) (e_addI _ _)))
  have c1 := tst (bin (op := oNee) (call2 (fa := cVar 3) (fb := cVar 4) (ρ := EH s b a c none none none none) (var (d := rowD a) rfl) (var (d := rowD c) rfl) (t_together (k + 4) a c b.n ha1 hc1 h3 fun i => ⟨at_bd ha (by omega) i, at_bd hc (by omega) i⟩)) l1 (e_neS (tm_ints 0 _) (by omega)))
  have hz := bin (op := oMul) (fa := cTup (aCons (cC (.int (0))) aNil)) (fb := cVar 2) (ρ := EH s b a c none none none none) (a := .tuple [.int 0]) rfl (var (d := .int (b.n : Int)) rfl) (e_repT h1 (by omega) _)
  rw [zeroR] at hz
  have c2 := tst (bin (op := oNee) (call1 (fa := cVar 1) (ρ := EH s b a c none none none none) (var (d := bkD b) rfl) (t_nothing (k + 4) b o)) hz (e_neS (tm_ints 0 _) (by omega)))
  exact orB1 c1 fun _ => c2
theorem th_c2 (k : Nat) (o : BkOk b) {s : Tp} {a c : List Int} : cTst (cBin oNee (cLc [5] (iRng (aCons (cVar 2) aNil)) (tName 0 5) cYes (cCall (tab (k + 5)) "one_of" (aCons (cVar 1) (aCons (cVar 5) aNil)))) (cLc [5] (iRng (aCons (cVar 2) aNil)) (tName 0 5) cYes (cB bTup (aCons (cLc [6] (iRng (aCons (cVar 2) aNil)) (tName 0 6) cYes (cB bInt (aCons (cBin oEqq (cVar 6) (cVar 5)) aNil))) aNil)))) (EH s b a c none none none none) = some (.ok false (EH s b a c none none none none)) := by
  have h3 := o.n3
  have l1 := lc_m (v := 5) (e := (cCall (tab (k + 5)) "one_of" (aCons (cVar 1) (aCons (cVar 5) aNil)))) (ρ := EH s b a c none none none none) (List.range b.n) (fun i : Nat => .int (i : Int)) (fun j => rowD ((List.range b.n).map fun i => if i = j then 1 else 0)) (it_rng (f := cVar 2) (n := b.n) (var rfl) (by omega)) (by simp [EH]) (by simp; omega) (fun j hj => call2 (var (i := 1) (d := bkD b) rfl) (var (i := 5) (d := .int (j : Int)) rfl) (t_one_of (k + 4) b o j))
  have l2 := lc_m (v := 5) (e := (cB bTup (aCons (cLc [6] (iRng (aCons (cVar 2) aNil)) (tName 0 6) cYes (cB bInt (aCons (cBin oEqq (cVar 6) (cVar 5)) aNil))) aNil))) (ρ := EH s b a c none none none none) (List.range b.n) (fun i : Nat => .int (i : Int)) (fun j => rowD ((List.range b.n).map fun i => if i = j then 1 else 0)) (it_rng (f := cVar 2) (n := b.n) (var rfl) (by omega)) (by simp [EH]) (by simp; omega) (fun j hj => by
    refine b1_tup (lc_mi (v := 6) (e := (cB bInt (aCons (cBin oEqq (cVar 6) (cVar 5)) aNil))) (List.range b.n) (fun i : Nat => .int (i : Int)) (fun i => if i = j then 1 else 0) (it_rng (f := cVar 2) (n := b.n) (var rfl) (by omega)) (by simp [EH, wipeE]) (by simp; omega) fun i hi => ?_)
    have := b1 (bin (op := oEqq) (var (i := 6) (d := .int (i : Int)) (ρ := (wipeE ((wipeE (EH s b a c none none none none) [5]).set 5 (some (.dat (.int (j : Int))))) [6]).set 6 (some (.dat (.int (i : Int))))) rfl) (var (i := 5) (d := .int (j : Int)) rfl) (e_eqI _ _)) (e_intB _)
    rw [this]
    by_cases e : i = j
    · subst e; simp
    · have : ((i : Int) == (j : Int)) = false := by rw [beq_eq_false_iff_ne]; omega
      simp [this, e])
  exact tst (bin (op := oNee) l1 l2 (e_neS (n := 2) (tm_map _ _ fun x _ => tm_ints 0 _) (by omega)))
theorem tm_ws (o : BkOk b) (r : List Int) : Tame 5 (wsD b r) := tm_tuple fun x hx => by
  simp only [List.mem_cons, List.not_mem_nil, or_false] at hx
  rcases hx with rfl | rfl | rfl | rfl
  · exact tm_str 4 _
  · exact tm_mapT _ _ fun x _ => tm_str 3 _
  · refine tm_mapT _ _ fun l _ => tm_mapT _ _ fun p _ => tm_tuple fun x hx => ?_
    simp only [List.mem_cons, List.not_mem_nil, or_false] at hx
    rcases hx with rfl | rfl
    · exact tm_ints 0 _
    · exact tm_ints 0 [_, _]
  · exact tm_ints 3 _
theorem th_c3 (k : Nat) (o : BkOk b) {s : Tp} {a c : List Int} (ha : RowOk b.n 4 a) : cOrB (cTst (cBin oNee (cCall (tab (k + 5)) "has" (aCons (cVar 3) (aCons (cLst (aCons (cC (.int (0))) aNil)) aNil))) (cBin oGt (cBin oIx (cVar 3) (cC (.int (0)))) (cC (.int (0)))))) (cOrB (cTst (cBin oIsNot (cCall (tab (k + 5)) "has" (aCons (cVar 3) (aCons (cLst aNil) aNil))) (cC (.bool false)))) (cTst (cBin oNee (cCall (tab (k + 5)) "with_start" (aCons (cVar 1) (aCons (cVar 3) aNil))) (cBin oAdd (cSl (cVar 1) oNone (oSome (cC (.int (3))))) (cTup (aCons (cVar 3) aNil)))))) (EH s b a c none none none none) = some (.ok false (EH s b a c none none none none)) := by
  have h1 := o.n1
  have ha1 := ha.1
  have e1 := call2 (fa := cVar 3) (fb := cLst (aCons (cC (.int (0))) aNil)) (ρ := EH s b a c none none none none) (var (d := rowD a) rfl) (b := nl [0]) rfl (t_has (k + 4) a [0] (fun j hj => by rw [List.mem_singleton.mp hj]; omega) (by simp))
  have e2 := bin (op := oGt) (ixT (fa := cVar 3) (fb := cC (.int 0)) (ρ := EH s b a c none none none none) (var (d := rowD a) rfl) (const (.int 0) _) (ix_row (j := 0) (by omega))) (const (.int 0) _) (e_gtI _ _)
  have eh : hasF a [0] = decide (0 < at_ a 0) := by simp [hasF]
  rw [eh] at e1
  have c1 := tst (bin (op := oNee) e1 e2 (e_neS (tm_bool 0 _) (by omega)))
  have e3 := call2 (fa := cVar 3) (fb := cLst aNil) (ρ := EH s b a c none none none none) (var (d := rowD a) rfl) (b := nl []) rfl (t_has (k + 4) a [] (fun j hj => nomatch hj) (by simp))
  have c2 := tst (bin (op := oIsNot) e3 (const (.bool false) _) (e_isNotB _ _))
  have c3 := tst (bin (op := oNee) (call2 (fa := cVar 1) (fb := cVar 3) (ρ := EH s b a c none none none none) (var (d := bkD b) rfl) (var (d := rowD a) rfl) (t_with (k + 4) b a)) (ws_e (f := cVar 1) (g := cVar 3) (b := b) (r := a) (var rfl) (var rfl)) (e_neS (tm_ws o a) (by omega)))
  exact orB1 c1 fun _ => orB1 c2 fun _ => c3
noncomputable def bodyTH (k : Nat) : Ex := (sPut 8 (cVar 9) (cCall (tab (k + 5)) "_law_add" (aCons (cGet 8 (cVar 9) (cTup (aCons (cC (.int (0))) (aCons (cC (.int (1))) aNil)))) (aCons (cVar 10) aNil))))
theorem th_step (k : Nat) {s : Tp} {a c : List Int} {x7 : Option Val} (g : Dr) (hg : ∀ p ∈ g, BdV p.2) (hl : g.length ≤ 1000) (x : List Int × (Int × Int)) (hx : BdV x.2) : bodyTH k (EH s b a c x7 (some (.mt (kT g))) (some (D (rowD x.1))) (some (D (pd x.2)))) = some (.ok .nx (EH s b a c x7 (some (.mt (kT (stepT g x)))) (some (D (rowD x.1))) (some (D (pd x.2))))) := by
  obtain ⟨b1', b2, b3⟩ := getT_bd hg x.1
  obtain ⟨c1, c2, c3⟩ := hx
  have hget := getD_go (i := 8) (fk := cVar 9) (fx := cTup (aCons (cC (.int (0))) (aCons (cC (.int (1))) aNil))) (r := x.1) (v := (0, 1)) (g := g) (ρ := EH s b a c x7 (some (.mt (kT g))) (some (D (rowD x.1))) (some (D (pd x.2)))) rfl (var (d := rowD x.1) rfl) rfl
  have hadd := call2 hget (var (i := 10) (d := pd x.2) rfl) (t_add (k + 3) _ _ _ _ b1' b2 c1 c2 b3 c3)
  exact put_row (i := 8) (fk := cVar 9) (r := x.1) (g := g) (ρ := EH s b a c x7 (some (.mt (kT g))) (some (D (rowD x.1))) (some (D (pd x.2)))) rfl hadd (var (d := rowD x.1) rfl) hl
theorem t_things (k : Nat) (o : BkOk b) (N : Nat) (s : Tp) (h : TOk (N + 10) s) : ∃ s', tab (k + 6) "_law_things" [tpV s, D (bkD b), I (b.n : Int)] = some (.ok (D (.bool true)) [tpV s', D (bkD b), I (b.n : Int)]) ∧ TOk N s' := by
  have h1 := o.n1
  have h3 := o.n3
  obtain ⟨s1, a, a1, a2, a3⟩ := t_dlot (k + 3) (n := b.n) (m := 4) h1 h3 (by omega) (N + 5) s h
  obtain ⟨s2, c, c1, c2, c3⟩ := t_dlot (k + 3) (n := b.n) (m := 4) h1 h3 (by omega) N s1 a2
  refine ⟨s2, ?_, c2⟩
  rw [tab__law_things]
  have p1 := callT2 (Φ := tab (k + 5)) (f := "_law_lot") (i := 0) (ρ := [some (tpV s), some (D (bkD b)), some (I (b.n : Int)), none, none, none, none, none, none, none, none]) (fb := cVar 2) (fc := cC (.int 4)) rfl (var (d := .int (b.n : Int)) rfl) (const (.int 4) _) a1
  have p2 := callT2 (Φ := tab (k + 5)) (f := "_law_lot") (i := 0) (ρ := [some (tpV s1), some (D (bkD b)), some (I (b.n : Int)), none, none, none, none, none, none, none, none]) (fb := cVar 2) (fc := cC (.int 4)) rfl (var (d := .int (b.n : Int)) rfl) (const (.int 4) _) c1
  have hp : sPar 3 3 4 (cCall (tab (k + 5)) "_law_lot" (aCons (cVar 0) (aCons (cVar 2) (aCons (cC (.int (4))) aNil)))) (cCall (tab (k + 5)) "_law_lot" (aCons (cVar 0) (aCons (cVar 2) (aCons (cC (.int (4))) aNil)))) [some (tpV s), some (D (bkD b)), some (I (b.n : Int)), none, none, none, none, none, none, none, none] = some (.ok .nx (EH s2 b a c none none none none)) := by
    unfold sPar
    rw [p1, bnd_ok]
    show bnd (cCall _ _ _ [some (tpV s1), some (D (bkD b)), some (I (b.n : Int)), none, none, none, none, none, none, none, none]) _ = _
    rw [p2, bnd_ok]
    rfl
  -- the rows
  generalize hz : List.replicate b.n (0 : Int) = z
  have hn := t_nothing (k + 4) b o
  rw [hz] at hn
  have r14 : pd (red ((1 : Nat) : Int) ((4 : Nat) : Int)) = .tuple [.int 1, .int 4] := by
    rw [show red ((1 : Nat) : Int) ((4 : Nat) : Int) = (1, 4) by decide +kernel]
  have r24 : pd (red ((2 : Nat) : Int) ((4 : Nat) : Int)) = .tuple [.int 1, .int 2] := by
    rw [show red ((2 : Nat) : Int) ((4 : Nat) : Int) = (1, 2) by decide +kernel]
  have r04 : pd (red ((0 : Nat) : Int) ((4 : Nat) : Int)) = .tuple [.int 0, .int 1] := by
    rw [show red ((0 : Nat) : Int) ((4 : Nat) : Int) = (0, 1) by decide +kernel]
  have eR : ([(a, 1), (c, 1), (a, 2), (z, 0)] : List Pr).map (rwD 4) = [.tuple [rowD a, .tuple [.int 1, .int 4]], .tuple [rowD c, .tuple [.int 1, .int 4]], .tuple [rowD a, .tuple [.int 1, .int 2]], .tuple [rowD z, .tuple [.int 0, .int 1]]] := by
    simp only [List.map_cons, List.map_nil, rwD, r14, r24, r04]
  generalize hR : PyData.list (([(a, 1), (c, 1), (a, 2), (z, 0)] : List Pr).map (rwD 4)) = R
  have hR' : R = .list [.tuple [rowD a, .tuple [.int 1, .int 4]], .tuple [rowD c, .tuple [.int 1, .int 4]], .tuple [rowD a, .tuple [.int 1, .int 2]], .tuple [rowD z, .tuple [.int 0, .int 1]]] := by rw [← hR, eR]
  have hrows : cLst (aCons (cTup (aCons (cVar 3) (aCons (cTup (aCons (cC (.int (1))) (aCons (cC (.int (4))) aNil))) aNil))) (aCons (cTup (aCons (cVar 4) (aCons (cTup (aCons (cC (.int (1))) (aCons (cC (.int (4))) aNil))) aNil))) (aCons (cTup (aCons (cVar 3) (aCons (cTup (aCons (cC (.int (1))) (aCons (cC (.int (2))) aNil))) aNil))) (aCons (cTup (aCons (cCall (tab (k + 5)) "nothing" (aCons (cVar 1) aNil)) (aCons (cTup (aCons (cC (.int (0))) (aCons (cC (.int (1))) aNil))) aNil))) aNil)))) (EH s2 b a c none none none none) = some (.ok (D R) (EH s2 b a c none none none none)) := by
    have v3 : cVar 3 (EH s2 b a c none none none none) = some (.ok (D (rowD a)) (EH s2 b a c none none none none)) := var rfl
    have v4 : cVar 4 (EH s2 b a c none none none none) = some (.ok (D (rowD c)) (EH s2 b a c none none none none)) := var rfl
    have u1 := tup2 v3 (tup2 (const (.int 1) (EH s2 b a c none none none none)) (const (.int 4) _))
    have u2 := tup2 v4 (tup2 (const (.int 1) (EH s2 b a c none none none none)) (const (.int 4) _))
    have u3 := tup2 v3 (tup2 (const (.int 1) (EH s2 b a c none none none none)) (const (.int 2) _))
    have u4 := tup2 (call1 (fa := cVar 1) (ρ := EH s2 b a c none none none none) (var (d := bkD b) rfl) hn) (tup2 (const (.int 0) _) (const (.int 1) _))
    rw [hR']
    unfold cLst
    simp only [aCons, aNil] at u1 u2 u3 u4 ⊢
    simp only [u1, u2, u3, u4, bnd_ok, argOk_dat, if_true]
    rfl
  obtain ⟨g, g1, g2, g3, g4, g5, g6, g7, g8, g9, g10⟩ := due_all a c z
  have b14 : BdV (1, 4) := ⟨by decide, by decide, by decide⟩
  have b12 : BdV (1, 2) := ⟨by decide, by decide, by decide⟩
  have hsl : iSeq (cSl (cVar 7) oNone (oSome (cC (.int (3))))) (EH s2 b a c (some (D R)) (some (.mt (kT []))) none none) = some (.ok [.tuple [rowD a, pd (1, 4)], .tuple [rowD c, pd (1, 4)], .tuple [rowD a, pd (1, 2)]] (EH s2 b a c (some (D R)) (some (.mt (kT []))) none none)) := by
    refine it_L ?_
    have hv : cVar 7 (EH s2 b a c (some (D R)) (some (.mt (kT []))) none none) = some (.ok (D R) (EH s2 b a c (some (D R)) (some (.mt (kT []))) none none)) := var rfl
    simp only [cSl, hv, bnd_ok, oNone, oSome, cC, asI]
    rw [hR']
    rfl
  have hfor : sFor (iSeq (cSl (cVar 7) oNone (oSome (cC (.int (3)))))) (tPair 3 9 10) (bodyTH k) (EH s2 b a c (some (D R)) (some (.mt (kT []))) none none) = some (.ok .nx (EH s2 b a c (some (D R)) (some (.mt (kT g))) (some (D (rowD a))) (some (D (pd (1, 2)))))) := by
    unfold sFor
    rw [hsl, bnd_ok]
    have t1 : ∀ (g : Dr) (x9 x10 : Option Val) (r : List Int) (v : Int × Int), x9 = none ∨ (∃ d, x9 = some (D d)) → tPair 3 9 10 (.tuple [rowD r, pd v]) (EH s2 b a c (some (D R)) (some (.mt (kT g))) x9 x10) = some (EH s2 b a c (some (D R)) (some (.mt (kT g))) (some (D (rowD r))) (some (D (pd v)))) := fun g x9 x10 r v _ => rfl
    unfold forL
    rw [t1 _ _ _ _ _ (.inl rfl)]
    simp only
    rw [th_step k [] (fun p hp => nomatch hp) (by simp) (a, (1, 4)) b14, bnd_ok]
    simp only
    unfold forL
    rw [t1 _ _ _ _ _ (.inr ⟨_, rfl⟩)]
    simp only
    rw [th_step k _ g2 (by omega) (c, (1, 4)) b14, bnd_ok]
    simp only
    unfold forL
    rw [t1 _ _ _ _ _ (.inr ⟨_, rfl⟩)]
    simp only
    rw [th_step k _ g3 (by omega) (a, (1, 2)) b12, bnd_ok, g1]
    rfl
  have hane : a ≠ [] := fun e => by
    have := a3.1
    rw [e, List.length_nil] at this
    omega
  have hcne : c ≠ [] := fun e => by
    have := c3.1
    rw [e, List.length_nil] at this
    omega
  have hzne : z ≠ [] := fun e => by
    have := congrArg List.length hz
    rw [e, List.length_nil, List.length_replicate] at this
    omega
  have hsl2 := t_sl k 4 (by omega) (by omega) [(a, 1), (c, 1), (a, 2), (z, 0)] (by simp) (by simp) (fun p hp => by
    simp only [List.mem_cons, List.not_mem_nil, or_false] at hp
    rcases hp with rfl | rfl | rfl | rfl
    · exact hane
    · exact hcne
    · exact hane
    · exact hzne) (by simp)
  rw [hR] at hsl2
  have hflt := flt_srt (l := dd (([(a, 1), (c, 1), (a, 2), (z, 0)] : List Pr).map (·.1))) (K := g.map (·.1)) (p := fun r => decide (0 < (red ((wt [(a, 1), (c, 1), (a, 2), (z, 0)] r : Nat) : Int) ((4 : Nat) : Int)).1)) (dd_nodup _) g8 g9
  rw [hflt] at hsl2
  have hks : ∀ r ∈ srtR (g.map (·.1)), r ∈ g.map (·.1) := fun r hr => (srtR_perm _).mem_iff.mp hr
  have hsrt := e_sortT (i := 8) (g := g) (ρ := EH s2 b a c (some (D R)) (some (.mt (kT g))) (some (D (rowD a))) (some (D (pd (1, 2))))) rfl (by omega) (fun p hp => by
    rcases g7 p hp with e | e
    · rw [e]; exact hane
    · rw [e]; exact hcne)
  have hlc := lc_m (v := 9) (e := (cTup (aCons (cVar 9) (aCons (cBin oDG (cVar 8) (cVar 9)) aNil)))) (ρ := EH s2 b a c (some (D R)) (some (.mt (kT g))) (some (D (rowD a))) (some (D (pd (1, 2))))) (srtR (g.map (·.1))) rowD (fnd 4 [(a, 1), (c, 1), (a, 2), (z, 0)]) (it_L hsrt) (by simp [EH]) (by rw [(srtR_perm _).length_eq, List.length_map]; omega) (fun r hr => tup2 (var (i := 9) (d := rowD r) rfl) (dg_go (i := 8) (g := g) (r := r) rfl (var (i := 9) (d := rowD r) rfl) (g10 r (hks r hr))))
  have hcmp := bin (op := oEqq) (call1 (fa := cVar 7) (ρ := EH s2 b a c (some (D R)) (some (.mt (kT g))) (some (D (rowD a))) (some (D (pd (1, 2))))) (var (d := R) rfl) hsl2) (b1_tup hlc) (e_eqS (n := 3) (tm_mapT _ _ fun r _ => tm_tuple fun x hx => by
    simp only [List.mem_cons, List.not_mem_nil, or_false] at hx
    rcases hx with rfl | rfl
    · exact tm_ints 0 _
    · exact tm_ints 0 [_, _]) (by omega))
  have hbody : b__law_things (tab (k + 5)) [some (tpV s), some (D (bkD b)), some (I (b.n : Int)), none, none, none, none, none, none, none, none] = some (.ok (.rt (D (.bool true))) (EH s2 b a c (some (D R)) (some (.mt (kT g))) (some (D (rowD a))) (some (D (pd (1, 2)))))) := by
    unfold b__law_things
    unfold bodyTH at hfor
    rw [seq_nx hp, seq_nx (tst2 (th_c1 k o a3 c3)), seq_nx (tst2 (th_c2 k o)), seq_nx (tst2 (th_c3 k o a3)), seq_nx (set_d' hrows (by omega) (show _ = EH s2 b a c (some (D R)) none none none from rfl))]
    have hnt : sSet 3 8 cNt (EH s2 b a c (some (D R)) none none none) = some (.ok .nx (EH s2 b a c (some (D R)) (some (.mt (kT []))) none none)) := rfl
    rw [seq_nx hnt, seq_nx hfor]
    exact ret_d hcmp
  exact run_g rfl hbody (by simp [EH, tpV])
end
end PP.K03

end
section
set_option Elab.async false
set_option linter.all false
set_option maxRecDepth 100000
set_option maxHeartbeats 1000000
/-! K03th: the law. -/
namespace PP.K03
open PySem PySem.Spec PyProof.Rows L2 PP

section
variable {b : Bk}
def EQ (ns : List Int) (s : Tp) (b : Bk) (x2 x8 : Option Val) : PP.Env := [some (.scr ns), some (tpV s), x2, some (D (bkD b)), some (I (b.n : Int)), some (D (nl (List.range b.n))), none, none, x8, none]
theorem lr_go {ρ : PP.Env} {f : Ev} {n : Nat} (h : f ρ = some (.ok (I (n : Int)) ρ)) (hn : n ≤ 1000) : cLr f ρ = some (.ok (D (nl (List.range n))) ρ) := by
  have hc : (0 : Int) ≤ (n : Int) ∧ (n : Int) ≤ 1000000 := by omega
  unfold cLr
  rw [h, bnd_ok]
  unfold finLr
  simp only [hc, and_self, decide_true, if_true, Int.toNat_natCast, rng_enc]
  rfl
theorem lw_c1 (k : Nat) (o : BkOk b) {ns : List Int} {s : Tp} {x2 x8 : Option Val} : cOrB (cTst (cBin oIsNot (cCall (tab (k + 6)) "is_book" (aCons (cVar 3) aNil)) (cC (.bool true)))) (cTst (cBin oNee (cLc [6] (iSeq (cVar 5)) (tName 0 6) cYes (cCall (tab (k + 6)) "children" (aCons (cVar 3) (aCons (cVar 6) aNil)))) (cLc [6] (iSeq (cVar 5)) (tName 0 6) cYes (cLc [7] (iSeq (cVar 5)) (tName 0 7) (cTst (cBin oGt (cB bLen (aCons (cLc [8, 9] (iSeq (cBin oIx (cBin oIx (cVar 3) (cC (.int (2)))) (cVar 6))) (tPair 0 8 9) (cTst (cBin oGt (cBin oIx (cVar 8) (cVar 7)) (cC (.int (0))))) (cC (.int (1)))) aNil)) (cC (.int (0))))) (cVar 7))))) (EQ ns s b x2 x8) = some (.ok false (EQ ns s b x2 x8)) := by
  have h3 := o.n3
  have c1 := tst (bin (op := oIsNot) (call1 (fa := cVar 3) (ρ := EQ ns s b x2 x8) (var (d := bkD b) rfl) (t_book k b o)) (const (.bool true) _) (e_isNotB _ _))
  have l1 := lc_m (v := 6) (e := (cCall (tab (k + 6)) "children" (aCons (cVar 3) (aCons (cVar 6) aNil)))) (ρ := EQ ns s b x2 x8) (List.range b.n) (fun i : Nat => .int (i : Int)) (fun j => nl (chF b j)) (it_L (f := cVar 5) (ds := (List.range b.n).map fun i : Nat => .int (i : Int)) (var rfl)) (by simp [EQ]) (by simp; omega) (fun j hj => call2 (var (i := 3) (d := bkD b) rfl) (var (i := 6) (d := .int (j : Int)) rfl) (t_children (k + 5) b o j (List.mem_range.mp hj)))
  have l2 := lc_m (v := 6) (e := (cLc [7] (iSeq (cVar 5)) (tName 0 7) (cTst (cBin oGt (cB bLen (aCons (cLc [8, 9] (iSeq (cBin oIx (cBin oIx (cVar 3) (cC (.int (2)))) (cVar 6))) (tPair 0 8 9) (cTst (cBin oGt (cBin oIx (cVar 8) (cVar 7)) (cC (.int (0))))) (cC (.int (1)))) aNil)) (cC (.int (0))))) (cVar 7))) (ρ := EQ ns s b x2 x8) (List.range b.n) (fun i : Nat => .int (i : Int)) (fun j => nl (chF b j)) (it_L (f := cVar 5) (ds := (List.range b.n).map fun i : Nat => .int (i : Int)) (var rfl)) (by simp [EQ]) (by simp; omega) (fun kd hk => by
    have hk' := List.mem_range.mp hk
    have lo := litN_ok o hk'
    have hl2 := lo.len
    refine lc_f (v := 7) (List.range b.n) (fun i : Nat => .int (i : Int)) (Adj b kd) (fun i : Nat => .int (i : Int)) (it_L (f := cVar 5) (ds := (List.range b.n).map fun i : Nat => .int (i : Int)) (var rfl)) (by simp [EQ, wipeE]) (by simp; omega) (fun j hj => ?_) (fun j hj _ => var rfl)
    have hj' := List.mem_range.mp hj
    have hp := lc_pf (v := 8) (u := 9) (c := (cTst (cBin oGt (cBin oIx (cVar 8) (cVar 7)) (cC (.int (0)))))) (e := cC (.int 1)) (ρ := [some (.scr ns), some (tpV s), x2, some (D (bkD b)), some (I (b.n : Int)), some (D (nl (List.range b.n))), some (I (kd : Int)), some (I (j : Int)), x8, none]) (litN b kd) (fun r => rowD r.1) (fun r => pd (red (r.2 : Int) (sumL (litN b kd)))) (fun r => decide (0 < at_ r.1 j)) (fun _ => .int 1) (it_lit (f := cVar 3) (g := cVar 6) o hk' (var rfl) (var rfl)) (by simp) (by simp) (by omega) (fun r hr => tst (bin (ixT (var (i := 8) (d := rowD r.1) rfl) (var (i := 7) (d := .int (j : Int)) rfl) (ix_row (by have := (lo.lot r hr).1; omega))) (const (.int 0) _) (e_gtI _ _))) (fun r hr _ => const _ _)
    have := tst (bin (op := oGt) (b1_len hp) (const (.int 0) _) (e_gtI _ _))
    rw [List.length_map, gt_len] at this
    exact this)
  have c2 := tst (bin (op := oNee) l1 l2 (e_neS (n := 2) (tm_map _ _ fun x _ => tm_nl 0 _) (by omega)))
  exact orB1 c1 fun _ => c2
theorem lw_c2 (k : Nat) (o : BkOk b) {ns : List Int} {s : Tp} {x2 x8 : Option Val} : cTst (cBin oNee (cLc [6] (iSeq (cVar 5)) (tName 0 6) cYes (cCall (tab (k + 6)) "reached" (aCons (cVar 3) (aCons (cLst (aCons (cVar 6) aNil)) aNil)))) (cLc [6] (iSeq (cVar 5)) (tName 0 6) cYes (cCall (tab (k + 6)) "_law_comes" (aCons (cVar 3) (aCons (cLst (aCons (cVar 6) aNil)) aNil))))) (EQ ns s b x2 x8) = some (.ok false (EQ ns s b x2 x8)) := by
  have h3 := o.n3
  have l1 := lc_m (v := 6) (e := (cCall (tab (k + 6)) "reached" (aCons (cVar 3) (aCons (cLst (aCons (cVar 6) aNil)) aNil)))) (ρ := EQ ns s b x2 x8) (List.range b.n) (fun i : Nat => .int (i : Int)) (fun j => nl (comesF b [j])) (it_L (f := cVar 5) (ds := (List.range b.n).map fun i : Nat => .int (i : Int)) (var rfl)) (by simp [EQ]) (by simp; omega) (fun j hj => call2 (var (i := 3) (d := bkD b) rfl) (b := nl [j]) (lst1 (var (i := 6) (d := .int (j : Int)) rfl)) (t_reached2 (k + 4) o [j] (by simpa using hj) (by simp)))
  have l2 := lc_m (v := 6) (e := (cCall (tab (k + 6)) "_law_comes" (aCons (cVar 3) (aCons (cLst (aCons (cVar 6) aNil)) aNil)))) (ρ := EQ ns s b x2 x8) (List.range b.n) (fun i : Nat => .int (i : Int)) (fun j => nl (comesF b [j])) (it_L (f := cVar 5) (ds := (List.range b.n).map fun i : Nat => .int (i : Int)) (var rfl)) (by simp [EQ]) (by simp; omega) (fun j hj => call2 (var (i := 3) (d := bkD b) rfl) (b := nl [j]) (lst1 (var (i := 6) (d := .int (j : Int)) rfl)) (t_comes (k + 5) o [j] (by simpa using hj) (by simp)))
  exact tst (bin (op := oNee) l1 l2 (e_neS (n := 2) (tm_map _ _ fun x _ => tm_nl 0 _) (by omega)))
theorem lw_c3 (k : Nat) (o : BkOk b) {ns : List Int} {s : Tp} {x2 x8 : Option Val} : cOrB (cTst (cBin oNee (cCall (tab (k + 6)) "lots_of" (aCons (cVar 3) aNil)) (cCall (tab (k + 6)) "_law_lots" (aCons (cVar 3) aNil)))) (cOrB (cTst (cBin oNee (cCall (tab (k + 6)) "started" (aCons (cVar 3) aNil)) (cLc [6] (iSeq (cVar 5)) (tName 0 6) (cTst (cBin oGt (cBin oIx (cBin oIx (cVar 3) (cC (.int (3)))) (cVar 6)) (cC (.int (0))))) (cVar 6)))) (cTst (cBin oNee (cCall (tab (k + 6)) "reached" (aCons (cVar 3) (aCons (cCall (tab (k + 6)) "started" (aCons (cVar 3) aNil)) aNil))) (cCall (tab (k + 6)) "_law_comes" (aCons (cVar 3) (aCons (cCall (tab (k + 6)) "started" (aCons (cVar 3) aNil)) aNil)))))) (EQ ns s b x2 x8) = some (.ok false (EQ ns s b x2 x8)) := by
  have h3 := o.n3
  have v3 : cVar 3 (EQ ns s b x2 x8) = some (.ok (D (bkD b)) (EQ ns s b x2 x8)) := var rfl
  have c1 := tst (bin (op := oNee) (call1 v3 (t_lots_of (k + 3) o)) (call1 v3 (t_law_lots (k + 4) o)) (e_neS (n := 2) (tm_map _ _ fun x _ => tm_nl 0 _) (by omega)))
  have hs := call1 v3 (t_started (k + 5) b o)
  have hl := lc_f (v := 6) (c := (cTst (cBin oGt (cBin oIx (cBin oIx (cVar 3) (cC (.int (3)))) (cVar 6)) (cC (.int (0)))))) (e := cVar 6) (ρ := EQ ns s b x2 x8) (List.range b.n) (fun i : Nat => .int (i : Int)) (fun j => decide (0 < at_ b.start j)) (fun i : Nat => .int (i : Int)) (it_L (f := cVar 5) (ds := (List.range b.n).map fun i : Nat => .int (i : Int)) (var rfl)) (by simp [EQ]) (by simp; omega) (fun i hi => tst (bin (ixT (bk3 (b := b) (var rfl)) (var (i := 6) (d := .int (i : Int)) rfl) (ix_row (by rw [o.sl]; exact List.mem_range.mp hi))) (const (.int 0) _) (e_gtI _ _))) (fun i hi _ => var rfl)
  have c2 := tst (bin (op := oNee) hs hl (e_neS (tm_nl 0 _) (by omega)))
  have hlt : ∀ j ∈ (List.range b.n).filter fun j => decide (0 < at_ b.start j), j < b.n := fun j hj => List.mem_range.mp (List.mem_filter.mp hj).1
  have hlen : ((List.range b.n).filter fun j => decide (0 < at_ b.start j)).length ≤ 1000 := by
    refine Nat.le_trans (List.length_filter_le _ _) ?_
    rw [List.length_range]
    omega
  have c3 := tst (bin (op := oNee) (call2 v3 hs (t_reached2 (k + 4) o _ hlt hlen)) (call2 v3 hs (t_comes (k + 5) o _ hlt hlen)) (e_neS (tm_nl 0 _) (by omega)))
  exact orB1 c1 fun _ => orB1 c2 fun _ => c3
theorem lots_lt {R : Nat → List Nat} {n : Nat} (hR : ∀ k, (∀ j ∈ R k, j < n) ∧ (R k).length ≤ n) : ∀ l ∈ lotsF R n, (∀ j ∈ l, j < n) ∧ l.length ≤ n := by
  have key : ∀ (xs : List Nat) (s : List (List Nat)), (∀ l ∈ s, (∀ j ∈ l, j < n) ∧ l.length ≤ n) → ∀ l ∈ xs.foldl (lotS R) s, (∀ j ∈ l, j < n) ∧ l.length ≤ n := by
    intro xs
    induction xs with
    | nil => exact fun s h => h
    | cons x xs ih =>
      intro s h
      rw [List.foldl_cons]
      refine ih _ fun l hl => ?_
      unfold lotS at hl
      split at hl
      · exact h l hl
      · rcases List.mem_append.mp hl with hl | hl
        · exact h l hl
        · rw [List.mem_singleton.mp hl]
          exact ⟨fun j hj => (hR x).1 j (List.mem_filter.mp hj).1, Nat.le_trans (List.length_filter_le _ _) (hR x).2⟩
  exact key (List.range n) [] fun l hl => nomatch hl
theorem lw_lot (k : Nat) (o : BkOk b) {ns : List Int} {s : Tp} {x2 : Option Val} (js : List Nat) (h : ∀ j ∈ js, j < b.n) (hl : js.length ≤ 100) : cOrB (cTst (cBin oNee (cCall (tab (k + 6)) "is_circling" (aCons (cVar 3) (aCons (cVar 8) aNil))) (cBin oGt (cCall (tab (k + 6)) "_law_turns_back" (aCons (cVar 3) (aCons (cVar 8) aNil))) (cC (.int (0)))))) (cTst (cBin oNee (cCall (tab (k + 6)) "is_plain" (aCons (cVar 3) (aCons (cVar 8) aNil))) (cBin oEqq (cCall (tab (k + 6)) "_law_odd" (aCons (cVar 3) (aCons (cVar 8) aNil))) (cC (.int (0)))))) (EQ ns s b x2 (some (D (nl js)))) = some (.ok false (EQ ns s b x2 (some (D (nl js))))) := by
  have v3 : cVar 3 (EQ ns s b x2 (some (D (nl js)))) = some (.ok (D (bkD b)) (EQ ns s b x2 (some (D (nl js))))) := var rfl
  have v8 : cVar 8 (EQ ns s b x2 (some (D (nl js)))) = some (.ok (D (nl js)) (EQ ns s b x2 (some (D (nl js))))) := var rfl
  have e1 := call2 v3 v8 (t_circling (k + 4) b o js h hl)
  have e2 := bin (op := oGt) (call2 v3 v8 (t_turns (k + 5) o h hl)) (const (.int 0) _) (e_gtI _ _)
  rw [← circ_eq o h] at e2
  have c1 := tst (bin (op := oNee) e1 e2 (e_neS (tm_bool 0 _) (by omega)))
  have e3 := call2 v3 v8 (t_plain (k + 5) o h hl)
  have e4 := bin (op := oEqq) (call2 v3 v8 (t_odd (k + 5) o h hl)) (const (.int 0) _) (e_eqI _ _)
  rw [← plain_eq] at e4
  have c2 := tst (bin (op := oNee) e3 e4 (e_neS (tm_bool 0 _) (by omega)))
  exact orB1 c1 fun _ => c2
theorem lw_lots (k : Nat) (o : BkOk b) {ns : List Int} {s : Tp} {x2 : Option Val} (x8 : Option Val) : ∃ x8', sFor (iSeq (cCall (tab (k + 6)) "_law_lots" (aCons (cVar 3) aNil))) (tName 1 8) (sIf (cOrB (cTst (cBin oNee (cCall (tab (k + 6)) "is_circling" (aCons (cVar 3) (aCons (cVar 8) aNil))) (cBin oGt (cCall (tab (k + 6)) "_law_turns_back" (aCons (cVar 3) (aCons (cVar 8) aNil))) (cC (.int (0)))))) (cTst (cBin oNee (cCall (tab (k + 6)) "is_plain" (aCons (cVar 3) (aCons (cVar 8) aNil))) (cBin oEqq (cCall (tab (k + 6)) "_law_odd" (aCons (cVar 3) (aCons (cVar 8) aNil))) (cC (.int (0))))))) (sRet (cC (.bool false))) bNil) (EQ ns s b x2 x8) = some (.ok .nx (EQ ns s b x2 x8')) := by
  have h3 := o.n3
  obtain ⟨x8', hf⟩ := forL_keep (np := 1) (v := 8) (by omega) (ρ0 := EQ ns s b x2 x8) (body := (sIf (cOrB (cTst (cBin oNee (cCall (tab (k + 6)) "is_circling" (aCons (cVar 3) (aCons (cVar 8) aNil))) (cBin oGt (cCall (tab (k + 6)) "_law_turns_back" (aCons (cVar 3) (aCons (cVar 8) aNil))) (cC (.int (0)))))) (cTst (cBin oNee (cCall (tab (k + 6)) "is_plain" (aCons (cVar 3) (aCons (cVar 8) aNil))) (cBin oEqq (cCall (tab (k + 6)) "_law_odd" (aCons (cVar 3) (aCons (cVar 8) aNil))) (cC (.int (0))))))) (sRet (cC (.bool false))) bNil)) nl (lotsF (fun k => comesF b [k]) b.n) (fun js hjs => by
    obtain ⟨a1, a2⟩ := lots_lt (R := fun k => comesF b [k]) (fun k => comes_lt) js hjs
    exact tst2 (lw_lot k o js a1 (by omega))) x8
  refine ⟨x8', ?_⟩
  unfold sFor
  rw [it_L (call1 (fa := cVar 3) (ρ := EQ ns s b x2 x8) (var (d := bkD b) rfl) (t_law_lots (k + 4) o)), bnd_ok]
  exact hf
end
noncomputable def bodyLW (k : Nat) : Ex := (bSeq (sSet 1 3 (cCall (tab (k + 6)) "_law_book" (aCons (cVar 1) (aCons (cC (.int (3))) aNil)))) (bSeq (sSet 1 4 (cB bLen (aCons (cBin oIx (cVar 3) (cC (.int (1)))) aNil))) (bSeq (sSet 1 5 (cLr (cVar 4))) (bSeq (sIf (cOrB (cTst (cBin oIsNot (cCall (tab (k + 6)) "is_book" (aCons (cVar 3) aNil)) (cC (.bool true)))) (cTst (cBin oNee (cLc [6] (iSeq (cVar 5)) (tName 0 6) cYes (cCall (tab (k + 6)) "children" (aCons (cVar 3) (aCons (cVar 6) aNil)))) (cLc [6] (iSeq (cVar 5)) (tName 0 6) cYes (cLc [7] (iSeq (cVar 5)) (tName 0 7) (cTst (cBin oGt (cB bLen (aCons (cLc [8, 9] (iSeq (cBin oIx (cBin oIx (cVar 3) (cC (.int (2)))) (cVar 6))) (tPair 0 8 9) (cTst (cBin oGt (cBin oIx (cVar 8) (cVar 7)) (cC (.int (0))))) (cC (.int (1)))) aNil)) (cC (.int (0))))) (cVar 7)))))) (sRet (cC (.bool false))) bNil) (bSeq (sIf (cTst (cBin oNee (cLc [6] (iSeq (cVar 5)) (tName 0 6) cYes (cCall (tab (k + 6)) "reached" (aCons (cVar 3) (aCons (cLst (aCons (cVar 6) aNil)) aNil)))) (cLc [6] (iSeq (cVar 5)) (tName 0 6) cYes (cCall (tab (k + 6)) "_law_comes" (aCons (cVar 3) (aCons (cLst (aCons (cVar 6) aNil)) aNil)))))) (sRet (cC (.bool false))) bNil) (bSeq (sIf (cOrB (cTst (cBin oNee (cCall (tab (k + 6)) "lots_of" (aCons (cVar 3) aNil)) (cCall (tab (k + 6)) "_law_lots" (aCons (cVar 3) aNil)))) (cOrB (cTst (cBin oNee (cCall (tab (k + 6)) "started" (aCons (cVar 3) aNil)) (cLc [6] (iSeq (cVar 5)) (tName 0 6) (cTst (cBin oGt (cBin oIx (cBin oIx (cVar 3) (cC (.int (3)))) (cVar 6)) (cC (.int (0))))) (cVar 6)))) (cTst (cBin oNee (cCall (tab (k + 6)) "reached" (aCons (cVar 3) (aCons (cCall (tab (k + 6)) "started" (aCons (cVar 3) aNil)) aNil))) (cCall (tab (k + 6)) "_law_comes" (aCons (cVar 3) (aCons (cCall (tab (k + 6)) "started" (aCons (cVar 3) aNil)) aNil))))))) (sRet (cC (.bool false))) bNil) (bSeq (sFor (iSeq (cCall (tab (k + 6)) "_law_lots" (aCons (cVar 3) aNil))) (tName 1 8) (sIf (cOrB (cTst (cBin oNee (cCall (tab (k + 6)) "is_circling" (aCons (cVar 3) (aCons (cVar 8) aNil))) (cBin oGt (cCall (tab (k + 6)) "_law_turns_back" (aCons (cVar 3) (aCons (cVar 8) aNil))) (cC (.int (0)))))) (cTst (cBin oNee (cCall (tab (k + 6)) "is_plain" (aCons (cVar 3) (aCons (cVar 8) aNil))) (cBin oEqq (cCall (tab (k + 6)) "_law_odd" (aCons (cVar 3) (aCons (cVar 8) aNil))) (cC (.int (0))))))) (sRet (cC (.bool false))) bNil)) (sIf (cOrB (cNotB (cTst (cCall (tab (k + 6)) "_law_ends" (aCons (cVar 3) (aCons (cVar 5) aNil))))) (cNotB (cTst (cCall (tab (k + 6)) "_law_things" (aCons (cVar 1) (aCons (cVar 3) (aCons (cVar 4) aNil))))))) (sRet (cC (.bool false))) bNil))))))))
def E0 (ns : List Int) (s : Tp) (x2 x3 x4 x5 x8 : Option Val) : PP.Env := [some (.scr ns), some (tpV s), x2, x3, x4, x5, none, none, x8, none]
theorem lw_step (k : Nat) (ns : List Int) (N : Nat) (s : Tp) (h : TOk (N + 97) s) (x2 x3 x4 x5 x8 : Option Val) : ∃ s' x3' x4' x5' x8', bodyLW k (E0 ns s x2 x3 x4 x5 x8) = some (.ok .nx (E0 ns s' x2 x3' x4' x5' x8')) ∧ TOk N s' := by
  obtain ⟨s1, b, a1, a2, o⟩ := t_dbook (k + 2) (N + 10) s h
  have h3 := o.n3
  obtain ⟨s2, c1, c2⟩ := t_things k o N s1 a2
  obtain ⟨x8', hl⟩ := lw_lots k o (ns := ns) (s := s1) (x2 := x2) x8
  refine ⟨s2, some (D (bkD b)), some (I (b.n : Int)), some (D (nl (List.range b.n))), x8', ?_, c2⟩
  have hb := callT1 (Φ := tab (k + 6)) (f := "_law_book") (i := 1) (ρ := E0 ns s x2 x3 x4 x5 x8) (fb := cC (.int 3)) rfl (const (.int 3) _) a1
  have hn := bkN (f := cVar 3) (ρ := E0 ns s1 x2 (some (D (bkD b))) x4 x5 x8) o (var rfl)
  have hr := lr_go (f := cVar 4) (n := b.n) (ρ := E0 ns s1 x2 (some (D (bkD b))) (some (I (b.n : Int))) x5 x8) (var rfl) (by omega)
  have e1 := notB1 (tst (call2 (fa := cVar 3) (fb := cVar 5) (ρ := EQ ns s1 b x2 x8') (var (d := bkD b) rfl) (var (d := nl (List.range b.n)) rfl) (t_ends (k + 1) o)))
  have ht := tst' (callT2 (Φ := tab (k + 6)) (f := "_law_things") (i := 1) (ρ := EQ ns s1 b x2 x8') (fb := cVar 3) (fc := cVar 4) rfl (var (d := bkD b) rfl) (var (d := .int (b.n : Int)) rfl) c1)
  have e2 : cNotB (cTst (cCall (tab (k + 6)) "_law_things" (aCons (cVar 1) (aCons (cVar 3) (aCons (cVar 4) aNil))))) (EQ ns s1 b x2 x8') = some (.ok false (EQ ns s2 b x2 x8')) := by
    simp only [cNotB, ht, bnd_ok]
    rfl
  have e3 : cOrB (cNotB (cTst (cCall (tab (k + 6)) "_law_ends" (aCons (cVar 3) (aCons (cVar 5) aNil))))) (cNotB (cTst (cCall (tab (k + 6)) "_law_things" (aCons (cVar 1) (aCons (cVar 3) (aCons (cVar 4) aNil)))))) (EQ ns s1 b x2 x8') = some (.ok false (EQ ns s2 b x2 x8')) := by
    simp only [cOrB, e1, bnd_ok, e2]
    rfl
  unfold bodyLW
  rw [seq_nx (set_d' hb (by omega) (show _ = E0 ns s1 x2 (some (D (bkD b))) x4 x5 x8 from rfl)), seq_nx (set_d' hn (by omega) (show _ = E0 ns s1 x2 (some (D (bkD b))) (some (I (b.n : Int))) x5 x8 from rfl)), seq_nx (set_d' hr (by omega) (show _ = EQ ns s1 b x2 x8 from rfl))]
  rw [seq_nx (tst2 (lw_c1 k o)), seq_nx (tst2 (lw_c2 k o)), seq_nx (tst2 (lw_c3 k o)), seq_nx hl]
  exact (if_no' e3).trans rfl
theorem lw_loop (k : Nat) (ns : List Int) (N : Nat) : ∀ (xs : List Nat) (s : Tp) (x2 x3 x4 x5 x8 : Option Val), TOk (N + 97 * xs.length) s → ∃ s' x2' x3' x4' x5' x8', forL (tName 1 2) (bodyLW k) (iz xs) (E0 ns s x2 x3 x4 x5 x8) = some (.ok .nx (E0 ns s' x2' x3' x4' x5' x8')) ∧ TOk N s'
  | [], s, x2, x3, x4, x5, x8, h => ⟨s, x2, x3, x4, x5, x8, rfl, h⟩
  | x :: xs, s, x2, x3, x4, x5, x8, h => by
    rw [List.length_cons] at h
    obtain ⟨s1, y3, y4, y5, y8, g1, g2⟩ := lw_step k ns (N + 97 * xs.length) s (h.mono (by omega)) (some (I (x : Int))) x3 x4 x5 x8
    obtain ⟨s2, z2, z3, z4, z5, z8, i1, i2⟩ := lw_loop k ns N xs s1 (some (I (x : Int))) y3 y4 y5 y8 g2
    refine ⟨s2, z2, z3, z4, z5, z8, ?_, i2⟩
    have e : iz (x :: xs) = .int (x : Int) :: iz xs := rfl
    have ht : tName 1 2 (.int (x : Int)) (E0 ns s x2 x3 x4 x5 x8) = some (E0 ns s (some (I (x : Int))) x3 x4 x5 x8) := rfl
    rw [e]
    unfold forL
    rw [ht]
    simp only
    rw [g1, bnd_ok]
    exact i1
theorem t_law (k : Nat) (ns : List Int) (h : ns.length ≤ 63) : tab (k + 7) "law" [.scr ns] = some (.ok (D (.bool true)) [.scr ns]) := by
  rw [tab_law]
  obtain ⟨s, a1, a2⟩ := t_state (k + 5) ns h
  obtain ⟨s', x2, x3, x4, x5, x8, hl, _⟩ := lw_loop k ns 0 (List.range 10) s none none none none none (a2.mono (by simp))
  have hcall : cCall (tab (k + 6)) "_law_state" (aCons (cVar 0) aNil) [some (.scr ns), none, none, none, none, none, none, none, none, none] = some (.ok (tpV s) [some (.scr ns), none, none, none, none, none, none, none, none, none]) := by
    have hv : cVar 0 [some (.scr ns), none, none, none, none, none, none, none, none, none] = some (.ok (.scr ns) [some (.scr ns), none, none, none, none, none, none, none, none, none]) := rfl
    have hc : callV (tab (k + 6)) "_law_state" [.scr ns] [some (.scr ns), none, none, none, none, none, none, none, none, none] = some (.ok (tpV s) [some (.scr ns), none, none, none, none, none, none, none, none, none]) := callV_ok (by simp) rfl a1 rfl rfl
    simp [cCall, aCons, aNil, hv, hc]
  have hs : sSet 1 1 (cCall (tab (k + 6)) "_law_state" (aCons (cVar 0) aNil)) [some (.scr ns), none, none, none, none, none, none, none, none, none] = some (.ok .nx (E0 ns s none none none none none)) := by
    unfold sSet
    rw [hcall, bnd_ok]
    rfl
  have hf : sFor (iRng (aCons (cC (.int (10))) aNil)) (tName 1 2) (bodyLW k) (E0 ns s none none none none none) = some (.ok .nx (E0 ns s' x2 x3 x4 x5 x8)) := by
    unfold sFor
    rw [it_rng (n := 10) (const (.int 10) _) (by omega), bnd_ok]
    exact hl
  have hbody : b_law (tab (k + 6)) [some (.scr ns), none, none, none, none, none, none, none, none, none] = some (.ok (.rt (D (.bool true))) (E0 ns s' x2 x3 x4 x5 x8)) := by
    unfold b_law
    unfold bodyLW at hf
    rw [seq_nx hs, seq_nx hf]
    exact ret_d (const _ _)
  exact run_g rfl hbody (by simp [E0])
end PP.K03

end
section
set_option Elab.async false
set_option linter.all false
set_option maxRecDepth 100000
set_option maxHeartbeats 0
/-! K03e: the law, from the pure function. -/
namespace PP.K03
open PySem PySem.Spec PyProof.Rows L2 PP

def PureLaw : Prop := ∀ ns : List Int, ns.length ≤ 63 → tab 12 "law" [.scr ns] = some (.ok (.dat (.bool true)) [.scr ns])
open Classical in
/-- the frozen part of a heap: its tuples, the script -/
noncomputable def ground (H : Hp) (a : Addr) : Hp := fun b => if b = a ∨ ∃ xs, H b = some (.tup xs) then H b else none
theorem ground_some {H : Hp} {a b : Addr} {o : HO} (h : ground H a b = some o) : H b = some o := by
  unfold ground at h
  split at h
  · exact h
  · cases h
theorem ground_at {H : Hp} {a : Addr} : ground H a a = H a := by
  unfold ground
  rw [if_pos (.inl rfl)]
theorem sql_ground {K : PySem.W.Frag} {H : Hp} {a : Addr} {xs : List V} (h : SqL K H a xs) : SqL K (ground H a) a xs := by
  rcases h with h | h
  · rcases h with h | ⟨o, h⟩
    · exact .inl (.inl (by rw [ground_at]; exact h))
    · exact .inl (.inr ⟨o, by rw [ground_at]; exact h⟩)
  · exact .inr h
theorem s8_ground {K : PySem.W.Frag} {H : Hp} {a : Addr} {ns : List Int} (h : SqL K H a (ns.map V.int)) : S8 K (ground H a) H ([V.ref a].map some) ([Val.scr ns].map some) := by
  refine ⟨fun b o e => ground_some e, fun b xs e => ?_, rfl, fun i v e => ?_, fun i j u v u' v' b ne h1 h2 h3 h4 f f' => ?_⟩
  · unfold ground
    rw [if_pos (.inr ⟨xs, e⟩)]
    exact e
  · match i with
    | 0 => cases e; exact ⟨trivial, .ref a, rfl, a, rfl, sql_ground h⟩
    | i + 1 => cases e
  · match i with
    | 0 => cases h2; exact f.elim
    | i + 1 => cases h2
def spLaw (K : PySem.W.Frag) : Sp := fun vs H Q _ => ∃ (a : Addr) (ns : List Int), vs = [.ref a] ∧ SqL K H a (ns.map V.int) ∧ ns.length ≤ 63 ∧ ∀ H', Q (.bl true) H'
/-- nothing gets out -/
theorem to0 {P : Program} {w : World} {K : PySem.W.Frag} {mg : Str → Option Value} {base : Heap} {k : Nat} {f : Addr} {fd : FuncData} {ps : List Str} {sp sp' : Sp} (F : FnOk P w K mg base (L2.CX P w) k f fd ps sp) (h : ∀ vs H Q E, sp' vs H Q E → sp vs H Q fun _ _ _ => False) : FnOk P w K mg base L2.CX0 k f fd ps sp' :=
  ⟨fun vs H Q E q => F.len vs H Q _ (h _ _ _ _ q), fun A outer s H args us vs Q E hr he hb hv hs => by
    refine codeAny_mono (F.run A outer s H args us vs Q _ hr he hb hv (h _ _ _ _ hs)) fun r s' z => ?_
    cases r with
    | error e =>
      obtain ⟨a, B, H', cls, d, _, _, _, _, _, _, _, z⟩ := (show L2.CX P w outer H s (fun _ _ _ => False) e s' from z)
      exact z.elim
    | ok fl => cases fl <;> exact z⟩
theorem fn_law (hp : PureLaw) {P : Program} {w : World} {K : PySem.W.Frag} {mg : Str → Option Value} (X : Facts K mg) {fa : Addr} (hm : mg ("law" : Str) = some (.ref fa)) :
    ∃ fd : FuncData, (∀ (s : Shared) (u : Value), BindsTo s fd ⟨[u], []⟩ [("script", u)]) ∧ ∀ base : Heap, FnOk P w K mg base L2.CX0 12 fa fd ["script"] (spLaw K) := by
  obtain ⟨a, fd, F, hm2⟩ := X.f_law
  rw [hm] at hm2
  cases hm2
  have b := FunD.bindsA (ps := ["script"]) F fun _ _ _ _ _ _ us hl => match us, hl with | [_], _ => rfl
  refine ⟨fd, fun s u => b s [u] rfl, fun base => ?_⟩
  have H : FnOk P w K mg base (L2.CX P w) 12 fa fd ["script"] (spOf (fun _ _ _ _ => False) 1 K (tab 12 "law")) := by
    rw [tab_law]
    exact fn_sound F sc_law rfl (wld (P := P) (w := w) (base := base) X 11) (s_law (tab 11) 11)
  refine to0 H fun vs H Q E ⟨a, ns, e, hs, hl, q⟩ => ?_
  subst e
  refine ⟨rfl, ground H a, [.scr ns], s8_ground hs, ?_⟩
  rw [hp ns hl]
  intro u G' H' _ pe
  cases (show Dt K G' u (.bool true) from pe.rv)
  exact q H'
end PP.K03
open PySem PySem.W PySem.Calls PyProof.Rows
theorem PP.K03.fin (hp : PP.K03.PureLaw) : PySem.Challenge.rw_linesdown_k03_whole_kinds_that_end.Holds := by
  w_on; o_law
  refine HandSHeadRun.head_any (r := OpenLaw.row PySem.Challenge.rw_linesdown_k03_whole_kinds_that_end) (q := view (OpenLaw.row PySem.Challenge.rw_linesdown_k03_whole_kinds_that_end).prog [PP.K03.lawAt]) (H := PP.K03.hk) (ob := PP.K03.ob) (M := 20000) (loose := PP.K03.loose) (d := HandSHeadRun.topDef (OpenLaw.row PySem.Challenge.rw_linesdown_k03_whole_kinds_that_end).prog PP.K03.lawAt) (kwd := []) PP.K03.ob_eq
    (by kernel_rfl) (fun s => by kernel_rfl) PP.K03.run (by kernel_rfl) (by kernel_rfl) (by kernel_rfl) (by rfl) (by first | assumption | decide +kernel) (by decide +kernel) ⟨rfl, rfl, rfl, rfl, rfl, by decide +kernel⟩ ?hw ?hc
  case hw => w_witness2
  case hc =>
    refine L2.walk_ofE (l := PySem.Challenge.rw_linesdown_k03_whole_kinds_that_end) (n := 63) (k := 12) (x := "script") (CX := L2.CX0) rfl (by decide) (by kernel_rfl) ⟨rfl, by decide, by decide⟩ ?F (fun _ _ _ _ z => z)
    intro w mg fa h Y G hmg0
    obtain ⟨K, KX, c⟩ := Y
    have hmg : mg ("law" : PySem.Str) = some (.ref fa) := by
      have e : (HandSHeadRun.topDef (OpenLaw.row PySem.Challenge.rw_linesdown_k03_whole_kinds_that_end).prog PP.K03.lawAt).name = ("law" : PySem.Str) := by kernel_rfl
      rw [← e]
      exact hmg0
    obtain ⟨fd, hb, hF⟩ := PP.K03.fn_law hp (P := (PySem.Challenge.rw_linesdown_k03_whole_kinds_that_end).prog) (w := w) (PP.K03.facts KX G c.t.d c.more) hmg
    exact ⟨K, fd, PP.K03.spLaw K, KX, hb, fun H a ns hl _ hS => ⟨a, ns, rfl, hS, hl, fun _ => rfl⟩, fun base _ _ => hF base⟩

end
section
set_option Elab.async false
set_option linter.all false
set_option maxRecDepth 100000
set_option maxHeartbeats 1000000
namespace PP.K03
theorem pure_law : PureLaw := fun ns h => t_law 5 ns h
end PP.K03
theorem PySem.Challenge.cw_linesdown_k03_whole_kinds_that_end_holds : PySem.Challenge.rw_linesdown_k03_whole_kinds_that_end.Holds := by
  exact PP.K03.fin PP.K03.pure_law

end
